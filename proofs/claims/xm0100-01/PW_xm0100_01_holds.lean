import PyProof.Rows.All
import Wide.All
import OpenK.AllK
import Wide.FinOn
import PySem.Challenge.RW_xm0100_01
set_option Elab.async false
set_option linter.all false
set_option maxRecDepth 100000
set_option maxHeartbeats 0
set_option pp.deepTerms false
section
open PySem PySem.W PyProof.Rows
namespace Mine
/-- a partial heap -/
noncomputable abbrev PH := Addr → Option Obj
mutual
inductive Rd (fz : PH) : Value → PyData → Prop
  | none : Rd fz .none .none
  | bool (b : Bool) : Rd fz (.bool b) (.bool b)
  | int (i : Int) (t : Tok) : Rd fz (.int i t) (.int i)
  | str (x : Str) (t : Tok) : Rd fz (.str x t) (.str x)
  | list {a : Addr} {o : Obj} {vs : Array Value} {n : Nat} {xs : List PyData} : fz a = some o → o.cls = .type "list" → o.data = .seq vs n → vs.size ≤ 2 ^ 20 → RdAll fz vs.toList xs → Rd fz (.ref a) (.list xs)
  | tuple {a : Addr} {o : Obj} {vs : Array Value} {n : Nat} {xs : List PyData} : fz a = some o → o.cls = .type "tuple" → o.data = .seq vs n → vs.size ≤ 2 ^ 20 → RdAll fz vs.toList xs → Rd fz (.ref a) (.tuple xs)
inductive RdAll (fz : PH) : List Value → List PyData → Prop
  | nil : RdAll fz [] []
  | cons {v : Value} {vs : List Value} {d : PyData} {ds : List PyData} : Rd fz v d → RdAll fz vs ds → RdAll fz (v :: vs) (d :: ds)
end
inductive Slot where
  | sh (d : PyData)
  | own (ds : List PyData)
noncomputable abbrev Sg := List (Str × Slot)
noncomputable def Sg.get : Sg → Str → Option Slot
  | [], _ => none
  | (y, v) :: r, x => if x = y then some v else Sg.get r x
noncomputable def Sg.set : Sg → Str → Slot → Sg
  | [], x, v => [(x, v)]
  | (y, u) :: r, x, v => if x = y then (y, v) :: r else (y, u) :: Sg.set r x v
noncomputable def Slot.froze : Slot → Slot
  | .sh d => .sh d
  | .own ds => .sh (.list ds)
noncomputable def Sg.frz (xs : List Str) : Sg → Sg
  | [] => []
  | (y, v) :: r => (if y ∈ xs then (y, v.froze) else (y, v)) :: Sg.frz xs r
structure Ctx where
  dfn : Str → Prop
  call : Str → List PyData → PyData → Prop
  mcall : Str → List PyData → List PyData → PyData → List PyData → Prop
  glob : Str → PyData → Prop
noncomputable abbrev KD := Str → Option NameKind
noncomputable def isVar (kd : KD) (x : Str) : Bool := match kd x with
  | some .local => true
  | some .cell => true
  | some .free => true
  | _ => false
structure Rec where
  e : KD → Expr → Sg → (PyData → Prop) → Prop
  t : KD → Expr → Sg → (Bool → Prop) → Prop
section
variable (C : Ctx) (R : Rec) (kd : KD)
noncomputable def asInt (d : PyData) (k : Int → Prop) : Prop := match d with
  | .int i => k i
  | _ => False
noncomputable def asList (d : PyData) (k : List PyData → Prop) : Prop := match d with
  | .list ds => k ds
  | _ => False
noncomputable def asBool (d : PyData) (k : Bool → Prop) : Prop := match d with
  | .bool b => k b
  | _ => False
noncomputable def asTup (d : PyData) (k : List PyData → Prop) : Prop := match d with
  | .tuple ds => k ds
  | _ => False
noncomputable def asSeq (d : PyData) (k : List PyData → Prop) : Prop := match d with
  | .list ds => k ds
  | .tuple ds => k ds
  | _ => False
noncomputable def rdName (x : Str) (σ : Sg) (k : PyData → Prop) : Prop := match σ.get x with
  | some (.sh d) => k d
  | some (.own ds) => k (.list ds)
  | none => False
noncomputable def shName (x : Str) (σ : Sg) (k : PyData → Prop) : Prop := match σ.get x with
  | some (.sh d) => k d
  | _ => False
/-- an operand that is only read: an owned list may stand there -/
noncomputable def rdE (e : Expr) (σ : Sg) (k : PyData → Prop) : Prop :=
  match e with
  | .Name x _ => (isVar kd x = true ∧ rdName x σ k) ∨ (isVar kd x = false ∧ R.e kd e σ k)
  | _ => R.e kd e σ k
noncomputable def notStar : Expr → Bool
  | .Starred _ _ => false
  | _ => true
noncomputable def wpArgs1 : List Expr → Sg → (List PyData → Prop) → Prop
  | [], _, k => k []
  | e :: r, σ, k => R.e kd e σ fun d => wpArgs1 r σ fun ds => k (d :: ds)
noncomputable def wpArgs (es : List Expr) (σ : Sg) (k : List PyData → Prop) : Prop := es.all notStar = true ∧ wpArgs1 R kd es σ k
noncomputable def b2i (b : Bool) : Int := if b then 1 else 0
noncomputable def rep (n : Nat) (xs : List PyData) : List PyData := (List.replicate n xs).flatten
/-- an int that the model's products and quotients bear -/
noncomputable def Fit (x : Int) : Prop := x.natAbs < 2 ^ 4000
noncomputable def binAdd (a b : PyData) (k : PyData → Prop) : Prop := match a with
  | .int x => asInt b fun y => k (.int (x + y))
  | .list xs => asList b fun ys => xs.length + ys.length ≤ 2 ^ 20 ∧ k (.list (xs ++ ys))
  | _ => False
noncomputable def binSub (a b : PyData) (k : PyData → Prop) : Prop := match a with
  | .int x => asInt b fun y => k (.int (x - y))
  | .bool x => asBool b fun y => k (.int (b2i x - b2i y))
  | _ => False
noncomputable def binMul (a b : PyData) (k : PyData → Prop) : Prop := match a with
  | .int x => asInt b fun y => Fit x ∧ Fit y ∧ k (.int (x * y))
  | _ => False
noncomputable def wpBin (op : Operator) (a b : PyData) (k : PyData → Prop) : Prop := match op with
  | .Add => binAdd a b k
  | .Sub => binSub a b k
  | .Mult => binMul a b k
  | .FloorDiv => asInt a fun x => asInt b fun y => y ≠ 0 ∧ Fit y ∧ k (.int (x.fdiv y))
  | .Mod => asInt a fun x => asInt b fun y => y ≠ 0 ∧ k (.int (x.fmod y))
  | .Pow => asInt a fun x => asInt b fun y => 0 ≤ y ∧ y ≤ 1000 ∧ Fit x ∧ k (.int (x ^ y.toNat))
  | _ => False
noncomputable def eqD (a b : PyData) (k : Bool → Prop) : Prop := match a with
  | .int x => asInt b fun y => k (decide (x = y))
  | _ => SeqAt.shaped a = true ∧ SeqAt.shaped b = true ∧ k (PyData.eqv a b)
noncomputable def wpCmp (op : CmpOp) (a b : PyData) (k : Bool → Prop) : Prop := match op with
  | .Eq => eqD a b k
  | .NotEq => eqD a b fun c => k (!c)
  | .Lt => asInt a fun x => asInt b fun y => k (decide (x < y))
  | .Gt => asInt a fun x => asInt b fun y => k (decide (y < x))
  | .LtE => asInt a fun x => asInt b fun y => k (decide (x ≤ y))
  | .GtE => asInt a fun x => asInt b fun y => k (decide (y ≤ x))
  | _ => False
noncomputable def cmpOk : CmpOp → Bool
  | .Eq => true
  | .NotEq => true
  | .Lt => true
  | .Gt => true
  | .LtE => true
  | .GtE => true
  | _ => false
inductive Bi where
  | abs | max | min | len | list | sum | isinst | int
noncomputable def biOf (f : Str) : Option Bi :=
  if f = Str.ofString "len" then some .len
  else if f = Str.ofString "abs" then some .abs
  else if f = Str.ofString "max" then some .max
  else if f = Str.ofString "min" then some .min
  else if f = Str.ofString "list" then some .list
  else if f = Str.ofString "sum" then some .sum
  else if f = Str.ofString "isinstance" then some .isinst
  else if f = Str.ofString "int" then some .int
  else none
noncomputable def asStr (d : PyData) (k : Prop) : Prop := match d with
  | .str _ => k
  | _ => False
noncomputable def wpBi (b : Bi) (args : List Expr) (σ : Sg) (k : PyData → Prop) : Prop := match b with
  | .len => match args with
    | [e] => notStar e = true ∧ rdE R kd e σ fun d => asSeq d fun ds => k (.int ds.length)
    | _ => False
  | .isinst => match args with
    | [e, .Name t _] => notStar e = true ∧ t = Str.ofString "str" ∧ kd t = some .globalImplicit ∧ R.e kd e σ fun d => asStr d (k (.bool true))
    | _ => False
  | .abs => wpArgs R kd args σ fun ds => match ds with
    | [d] => asInt d fun x => k (.int (x.natAbs : Int))
    | _ => False
  | .max => wpArgs R kd args σ fun ds => match ds with
    | [d, e] => asInt d fun x => asInt e fun y => k (.int (if y > x then y else x))
    | _ => False
  | .min => wpArgs R kd args σ fun ds => match ds with
    | [d, e] => asInt d fun x => asInt e fun y => k (.int (if y < x then y else x))
    | _ => False
  | .list => wpArgs R kd args σ fun ds => match ds with
    | [d] => asList d fun xs => k (.list xs)
    | _ => False
  | .sum => wpArgs R kd args σ fun ds => match ds with
    | [d] => asList d fun xs => ∃ ns : List Int, xs = ns.map PyData.int ∧ k (.int ns.sum)
    | _ => False
  | .int => wpArgs R kd args σ fun ds => match ds with
    | [d] => asInt d fun x => k (.int x)
    | _ => False
noncomputable def wpCallN (f : Str) (args : List Expr) (σ : Sg) (k : PyData → Prop) : Prop :=
  kd f = some .globalImplicit ∧ args.isEmpty = false ∧ match biOf f with
  | some b => wpBi R kd b args σ k
  | none => C.dfn f ∧ wpArgs R kd args σ fun ds => ∃ d, C.call f ds d ∧ k d
noncomputable def pyAt (ds : List PyData) (j : Int) : Option PyData :=
  if 0 ≤ j then ds[j.toNat]? else if 0 ≤ j + ds.length then ds[(j + ds.length).toNat]? else none
noncomputable def itemD (d i : PyData) (k : PyData → Prop) : Prop := asSeq d fun ds => asInt i fun j => ∃ x, pyAt ds j = some x ∧ k x
noncomputable def wpPart (e : Option Expr) (σ : Sg) (k : Option Int → Prop) : Prop := match e with
  | none => k none
  | some e => R.e kd e σ fun d => asInt d fun i => k (some i)
noncomputable def sliceD (ds : List PyData) (lo hi st : Option Int) : Option (List PyData) := match st with
  | none => match lo with
    | none => match hi with
      | some n => if 0 ≤ n then some (ds.take n.toNat) else none
      | none => none
    | some n => match hi with
      | none => if 0 ≤ n then some (ds.drop n.toNat) else none
      | some _ => none
  | some c => match lo with
    | none => match hi with
      | none => if c = -1 then some ds.reverse else none
      | some _ => none
    | some _ => none
noncomputable def wpSub (v sl : Expr) (σ : Sg) (k : PyData → Prop) : Prop :=
  rdE R kd v σ fun d => match sl with
  | .Slice lo hi st _ => asList d fun ds => wpPart R kd lo σ fun l => wpPart R kd hi σ fun h => wpPart R kd st σ fun c => ∃ xs, sliceD ds l h c = some xs ∧ k (.list xs)
  | _ => R.e kd sl σ fun i => itemD d i k
noncomputable def isFn (kd : KD) (f : Str) (s : String) : Bool := (f == Str.ofString s) && kd f == some .globalImplicit
/-- the items that an iterable hands on -/
noncomputable def wpIter (e : Expr) (σ : Sg) (k : List PyData → Prop) : Prop := match e with
  | .Call (.Name f _) args [] _ =>
    (isFn kd f "range" = true ∧ wpArgs R kd args σ fun ds => match ds with
      | [d] => asInt d fun n => -(2 ^ 20) ≤ n ∧ n ≤ 2 ^ 20 ∧ k ((List.range n.toNat).map fun i : Nat => PyData.int (i : Int))
      | [d, e] => asInt d fun a => asInt e fun b => 0 ≤ a ∧ a ≤ 2 ^ 20 ∧ -(2 ^ 20) ≤ b ∧ b ≤ 2 ^ 20 ∧ k ((List.range (b - a).toNat).map fun i : Nat => PyData.int (a + (i : Int)))
      | _ => False) ∨
    (isFn kd f "enumerate" = true ∧ wpArgs R kd args σ fun ds => match ds with
      | [d] => asList d fun xs => k (xs.zipIdx.map fun p => .tuple [.int p.2, p.1])
      | _ => False) ∨
    (isFn kd f "range" = false ∧ isFn kd f "enumerate" = false ∧ R.e kd e σ fun d => asSeq d k)
  | _ => R.e kd e σ fun d => asSeq d k
noncomputable def isEnumE (e : Expr) : Bool := match e with
  | .Call (.Name f _) _ [] _ => isFn kd f "enumerate"
  | _ => false
noncomputable def isTupT : Expr → Bool
  | .Tuple _ _ _ => true
  | _ => false
noncomputable def compKd (scope : Scope) : KD := fun x => (scope.names.map fun (n, k) => if (k == NameKind.free && kd n == some .cell) then (n, NameKind.cell) else (n, k)).lookup x
noncomputable def bindT (target : Expr) (d : PyData) (σ : Sg) (k : Sg → Prop) : Prop := match target with
  | .Name x _ => k (σ.set x (.sh d))
  | .Tuple [.Name x _, .Name y _] _ _ => asTup d fun ds => match ds with
    | [a, b] => k ((σ.set x (.sh a)).set y (.sh b))
    | _ => False
  | _ => False
noncomputable def wpTests (ifs : List Expr) (σ : Sg) (k : Bool → Prop) : Prop := match ifs with
  | [] => k true
  | [c] => R.t kd c σ k
  | _ => False
noncomputable def tgNames (target : Expr) : List Str := match target with
  | .Name x _ => [x]
  | .Tuple [.Name x _, .Name y _] _ _ => [x, y]
  | _ => []
noncomputable def dbg (x : Str) : Bool := x == ("__debug__" : Str) || x == ("__classdict__" : Str)
noncomputable def dot0 : Str := Str.ofString ".0"
noncomputable def compOk (scope : Scope) (target : Expr) (ifs : List Expr) : Bool :=
  scope.kind == .function && scope.names.all (fun y => y.2 != .cell && !dbg y.1 && (y.2 != .local || (scope.names.lookup y.1 == some .local && (y.1 == dot0 || (tgNames target).contains y.1))) && (y.2 != .free || kd y.1 == some .cell || kd y.1 == some .free)) &&
  (tgNames target).all (fun x => scope.names.lookup x == some .local) && (match target with
    | .Name _ _ => true
    | .Tuple [.Name x _, .Name y _] _ _ => ifs.isEmpty && x != y
    | _ => false)
noncomputable def plainIter (e : Expr) : Bool := match e with
  | .Set _ _ _ => false
  | _ => true
noncomputable def wpComp (elt target iter : Expr) (ifs : List Expr) (scope : Scope) (σ : Sg) (k : PyData → Prop) : Prop :=
  compOk kd scope target ifs = true ∧ σ.get dot0 = none ∧ plainIter iter = true ∧ isTupT target = isEnumE kd iter ∧ wpIter R kd iter σ fun ds =>
    ∃ (p : PyData → Bool) (g : PyData → PyData), (∀ d ∈ ds, bindT target d σ fun σ' => wpTests R (compKd kd scope) ifs σ' (fun b => b = p d) ∧ (p d = true → R.e (compKd kd scope) elt σ' fun y => y = g d)) ∧
      k (.list ((ds.filter p).map g))
/-- «[..] * n» apart: the list is made there -/
noncomputable def wpBinE (l : Expr) (op : Operator) (r : Expr) (σ : Sg) (k : PyData → Prop) : Prop := match l with
  | .List es _ => match op with
    | .Mult => es.length ≤ 30 ∧ wpArgs R kd es σ fun ds => R.e kd r σ fun b => asInt b fun n => n ≤ 2 ^ 15 ∧ -(2 ^ 62) ≤ n ∧ k (.list (rep n.toNat ds))
    | _ => R.e kd l σ fun a => R.e kd r σ fun b => wpBin op a b k
  | _ => R.e kd l σ fun a => R.e kd r σ fun b => wpBin op a b k
noncomputable def constD (c : Const) (k : PyData → Prop) : Prop := match c with
  | .int i => k (.int i)
  | .bool b => k (.bool b)
  | .none => k .none
  | .str s => k (.str s)
  | _ => False
noncomputable def stepE (e : Expr) (σ : Sg) (k : PyData → Prop) : Prop := match e with
  | .Constant c _ _ => constD c k
  | .Name x _ => (isVar kd x = true ∧ shName x σ k) ∨ (kd x = some .globalImplicit ∧ ∃ d, C.glob x d ∧ k d)
  | .BinOp l op r _ => wpBinE R kd l op r σ k
  | .UnaryOp .USub x _ => R.e kd x σ fun d => asInt d fun i => k (.int (-i))
  | .IfExp t b o _ => R.t kd t σ fun c => (c = true → R.e kd b σ k) ∧ (c = false → R.e kd o σ k)
  | .Compare l [op] [r] _ => cmpOk op = true ∧ rdE R kd l σ fun a => rdE R kd r σ fun b => wpCmp op a b fun c => k (.bool c)
  | .BoolOp .And [x, y] _ => R.e kd x σ fun d => asBool d fun b => (b = true → R.e kd y σ k) ∧ (b = false → k (.bool false))
  | .Tuple es _ _ => es.length ≤ 30 ∧ wpArgs R kd es σ fun ds => k (.tuple ds)
  | .List es _ => es.length ≤ 30 ∧ wpArgs R kd es σ fun ds => k (.list ds)
  | .Subscript v sl _ => wpSub R kd v sl σ k
  | .Call (.Name f _) args [] _ => wpCallN C R kd f args σ k
  | .ListComp elt [⟨target, iter, ifs, 0⟩] scope _ => wpComp R kd elt target iter ifs scope σ k
  | _ => False
noncomputable def stepT (e : Expr) (σ : Sg) (k : Bool → Prop) : Prop := match e with
  | .Compare l [op] [r] _ => cmpOk op = true ∧ rdE R kd l σ fun a => rdE R kd r σ fun b => wpCmp op a b k
  | .BoolOp .And [x, y] _ => R.t kd x σ fun b => (b = true → R.t kd y σ k) ∧ (b = false → k false)
  | .BoolOp .Or [x, y] _ => R.t kd x σ fun b => (b = true → k true) ∧ (b = false → R.t kd y σ k)
  | .Call (.Name f _) args [] _ => wpCallN C R kd f args σ fun d => asBool d k
  | _ => False
end
noncomputable def wpN (C : Ctx) : Nat → Rec
  | 0 => ⟨fun _ _ _ _ => False, fun _ _ _ _ => False⟩
  | n + 1 => ⟨fun kd => stepE C (wpN C n) kd, fun kd => stepT C (wpN C n) kd⟩
/- statements -/
inductive Fl where
  | nxt
  | ret (d : PyData)
noncomputable def escE : Nat → Expr → List Str
  | 0, _ => []
  | n + 1, e => match e with
    | .Name x _ => [x]
    | .Call (.Name f _) args [] _ => if f = Str.ofString "len" then [] else args.flatMap (escE n)
    | .Tuple es _ _ => es.flatMap (escE n)
    | .List es _ => es.flatMap (escE n)
    | .BinOp l _ r _ => escE n l ++ escE n r
    | .Subscript v _ _ => match v with
      | .Name _ _ => []
      | v => escE n v
    | _ => []
section
variable (C : Ctx) (R : Rec) (kd : KD)
noncomputable def wpVal (e : Expr) (σ : Sg) (k : Slot → Prop) : Prop := match e with
  | .List es _ => es.length ≤ 30 ∧ wpArgs R kd es σ fun ds => k (.own ds)
  | .BinOp (.List es _) .Mult r _ => es.length ≤ 30 ∧ wpArgs R kd es σ fun ds => R.e kd r σ fun b => asInt b fun n => n ≤ 2 ^ 15 ∧ -(2 ^ 62) ≤ n ∧ k (.own (rep n.toNat ds))
  | _ => R.e kd e σ fun d => k (.sh d)
noncomputable def wpVals1 : List Expr → Sg → (List Slot → Prop) → Prop
  | [], _, k => k []
  | e :: r, σ, k => wpVal R kd e σ fun d => wpVals1 r σ fun ds => k (d :: ds)
noncomputable def wpVals (es : List Expr) (σ : Sg) (k : List Slot → Prop) : Prop := es.all notStar = true ∧ wpVals1 R kd es σ k
noncomputable def namesOf : List Expr → List Str
  | [] => []
  | .Name x _ :: r => x :: namesOf r
  | _ :: r => namesOf r
noncomputable def dupFree (ts : List Expr) : Bool := decide (namesOf ts).Nodup && (namesOf ts).length == ts.length
noncomputable def canStore (x : Str) : Bool := match kd x with
  | some .local => true
  | some .cell => true
  | _ => false
noncomputable def setAll : List Expr → List Slot → Sg → Option Sg
  | [], [], σ => some σ
  | .Name x _ :: ts, v :: vs, σ => if canStore kd x then setAll ts vs (σ.set x v) else none
  | _, _, _ => none
/-- the one call that turns its first argument: «f(p, ..) op c» or «c op f(p, ..)» -/
noncomputable def wpMut (e : Expr) (σ : Sg) (k : PyData → Sg → Prop) : Prop := match e with
  | .BinOp (.Call (.Name f _) (.Name p _ :: as) [] _) op (.Constant (.int c) _ _) _ =>
    kd f = some .globalImplicit ∧ C.dfn f ∧ isVar kd p = true ∧ ∃ ds, σ.get p = some (.own ds) ∧ wpArgs R kd as σ fun xs => ∃ d ds', C.mcall f ds xs d ds' ∧ wpBin op d (.int c) fun r => k r (σ.set p (.own ds'))
  | .BinOp (.Constant (.int c) _ _) op (.Call (.Name f _) (.Name p _ :: as) [] _) _ =>
    kd f = some .globalImplicit ∧ C.dfn f ∧ isVar kd p = true ∧ ∃ ds, σ.get p = some (.own ds) ∧ wpArgs R kd as σ fun xs => ∃ d ds', C.mcall f ds xs d ds' ∧ wpBin op (.int c) d fun r => k r (σ.set p (.own ds'))
  | _ => False
noncomputable def wpSs (S : Stmt → Sg → (Fl → Sg → Prop) → Prop) : List Stmt → Sg → (Fl → Sg → Prop) → Prop
  | [], σ, k => k .nxt σ
  | s :: r, σ, k => S s σ fun f σ' => match f with
    | .nxt => wpSs S r σ' k
    | .ret d => k (.ret d) σ'
noncomputable def wpW (S : Stmt → Sg → (Fl → Sg → Prop) → Prop) (test : Expr) (body : List Stmt) (k : Fl → Sg → Prop) : Nat → Sg → Prop
  | 0, _ => False
  | m + 1, σ => R.t kd test σ fun b => (b = true → wpSs S body σ fun f σ' => match f with
      | .nxt => wpW S test body k m σ'
      | .ret d => k (.ret d) σ') ∧ (b = false → k .nxt σ)
noncomputable def wpF (S : Stmt → Sg → (Fl → Sg → Prop) → Prop) (target : Expr) (body : List Stmt) (k : Fl → Sg → Prop) : List PyData → Sg → Prop
  | [], σ => k .nxt σ
  | d :: r, σ => bindT target d σ fun σ' => wpSs S body σ' fun f σ'' => match f with
      | .nxt => wpF S target body k r σ''
      | .ret d => k (.ret d) σ''
noncomputable def forOk (target : Expr) : Bool := (tgNames target).all (canStore kd) && (match target with
    | .Name _ _ => true
    | .Tuple [.Name _ _, .Name _ _] _ _ => true
    | _ => false)
noncomputable def notComp : Expr → Bool
  | .ListComp _ _ _ _ => false
  | .SetComp _ _ _ _ => false
  | .DictComp _ _ _ _ _ => false
  | _ => true
noncomputable def stepS (S : Stmt → Sg → (Fl → Sg → Prop) → Prop) (st : Stmt) (σ : Sg) (k : Fl → Sg → Prop) : Prop := match st with
  | .Expr (.Call (.Attribute (.Name x _) m apos) [e] [] cpos) _ => m = Str.ofString "append" ∧ (apos.endLine == cpos.line) = true ∧ notStar e = true ∧ isVar kd x = true ∧
      (((∃ ds, σ.get x = some (.own ds)) ∧ wpMut C R kd e σ (fun d σ' => ∃ ds, σ'.get x = some (.own ds) ∧ ds.length < 2 ^ 20 ∧ k .nxt (σ'.set x (.own (ds ++ [d]))))) ∨
       ((∃ ds, (σ.frz (escE 20 e)).get x = some (.own ds)) ∧ R.e kd e (σ.frz (escE 20 e)) fun d => ∃ ds, (σ.frz (escE 20 e)).get x = some (.own ds) ∧ ds.length < 2 ^ 20 ∧ k .nxt ((σ.frz (escE 20 e)).set x (.own (ds ++ [d])))))
  | .Expr (.Call (.Name f fp) args [] cp) _ => R.e kd (.Call (.Name f fp) args [] cp) (σ.frz (escE 20 (.Call (.Name f fp) args [] cp))) fun d => match d with
      | .none => k .nxt (σ.frz (escE 20 (.Call (.Name f fp) args [] cp)))
      | _ => False
  | .Assign [.Name x _] (.ListComp elt [⟨target, iter, ifs, 0⟩] scope _) _ => canStore kd x = true ∧ wpComp R kd elt target iter ifs scope σ fun d => k .nxt (σ.set x (.sh d))
  | .Assign [.Name x _] e _ => canStore kd x = true ∧ notComp e = true ∧ wpVal R kd e (σ.frz (escE 20 e)) fun v => k .nxt ((σ.frz (escE 20 e)).set x v)
  | .Assign [.Tuple ts _ _] (.Tuple es _ _) _ => ts.length ≤ 20 ∧ ts.length = es.length ∧ es.all (constantsAlone 8) = false ∧ dupFree ts = true ∧ wpVals R kd es (σ.frz (es.flatMap (escE 20))) fun vs => ∃ σ', setAll kd ts vs (σ.frz (es.flatMap (escE 20))) = some σ' ∧ k .nxt σ'
  | .Assign [.Tuple ts _ _] (.Call f args [] p) _ => R.e kd (.Call f args [] p) (σ.frz (escE 20 (.Call f args [] p))) fun d => asTup d fun ds => ∃ σ', setAll kd ts (ds.map .sh) (σ.frz (escE 20 (.Call f args [] p))) = some σ' ∧ k .nxt σ'
  | .Assign [.Subscript (.Name x _) i _] e _ => isVar kd x = true ∧ notComp e = true ∧ ∃ ds, (σ.frz (escE 20 e)).get x = some (.own ds) ∧ R.e kd e (σ.frz (escE 20 e)) fun d => R.e kd i (σ.frz (escE 20 e)) fun j => asInt j fun j => 0 ≤ j ∧ j < ds.length ∧ k .nxt ((σ.frz (escE 20 e)).set x (.own (ds.set j.toNat d)))
  | .AugAssign (.Name x _) .Sub e _ => canStore kd x = true ∧ shName x σ fun a => R.e kd e σ fun b => asInt a fun i => asInt b fun j => k .nxt (σ.set x (.sh (.int (i - j))))
  | .If test body orelse _ => R.t kd test (σ.frz (escE 20 test)) fun b => (b = true → wpSs S body (σ.frz (escE 20 test)) k) ∧ (b = false → wpSs S orelse (σ.frz (escE 20 test)) k)
  | .While test body [] _ => ∃ m, wpW R kd S test body k m σ
  | .For target iter body [] _ => forOk kd target = true ∧ plainIter iter = true ∧ isTupT target = isEnumE kd iter ∧ wpIter R kd iter (σ.frz (escE 20 iter)) fun ds => wpF S target body k ds (σ.frz (escE 20 iter))
  | .Return (some e) _ => R.e kd e (σ.frz (escE 20 e)) fun d => k (.ret d) (σ.frz (escE 20 e))
  | _ => False
end
noncomputable def wpS (C : Ctx) (kd : KD) : Nat → Stmt → Sg → (Fl → Sg → Prop) → Prop
  | 0, _, _, _ => False
  | n + 1, st, σ, k => stepS C (wpN C 20) kd (wpS C kd n) st σ k
end Mine
end
set_option genSizeOf false
set_option genInjectivity false
section
open PySem PySem.W PyProof.Rows PySem.Spec PySem.Calls
namespace Mine
noncomputable def PH.le (f g : PH) : Prop := ∀ a o, f a = some o → g a = some o
noncomputable def Inn (fz : PH) (h : Heap) : Prop := ∀ a o, fz a = some o → h.get? a = some o
noncomputable def Ext (h h' : Heap) : Prop := ∀ b o, h.get? b = some o → h'.get? b = some o
structure Grow (fz : PH) (s : Shared) (fz' : PH) (s' : Shared) : Prop where
  same : ∃ h tk, s' = { s with heap := h, toks := tk }
  ext : Ext s.heap s'.heap
  le : PH.le fz fz'
  sub : Inn fz' s'.heap
  new : ∀ a o, fz' a = some o → fz a = some o ∨ s.heap.get? a = none
theorem PH.le.refl (f : PH) : PH.le f f := fun _ _ e => e
theorem PH.le.trans {f g h : PH} (a : PH.le f g) (b : PH.le g h) : PH.le f h := fun x o e => b x o (a x o e)
theorem Ext.refl (h : Heap) : Ext h h := fun _ _ e => e
theorem Ext.trans {a b c : Heap} (x : Ext a b) (y : Ext b c) : Ext a c := fun p o e => y p o (x p o e)
theorem Ext.none {h h' : Heap} (x : Ext h h') {a : Addr} (e : h'.get? a = none) : h.get? a = none := by
  cases q : h.get? a with
  | none => rfl
  | some o => rw [x a o q] at e; cases e
theorem Grow.refl {fz : PH} {s : Shared} (h : Inn fz s.heap) : Grow fz s fz s := ⟨⟨s.heap, s.toks, rfl⟩, Ext.refl _, PH.le.refl _, h, fun _ _ e => .inl e⟩
theorem Grow.tok {fz : PH} {s : Shared} (h : Inn fz s.heap) (t : Nat) : Grow fz s fz { s with toks := t } := ⟨⟨s.heap, t, rfl⟩, Ext.refl _, PH.le.refl _, h, fun _ _ e => .inl e⟩
theorem Grow.trans {f g k : PH} {a b c : Shared} (x : Grow f a g b) (y : Grow g b k c) : Grow f a k c := by
  obtain ⟨h1, t1, e1⟩ := x.same
  obtain ⟨h2, t2, e2⟩ := y.same
  refine ⟨⟨h2, t2, by rw [e2, e1]⟩, x.ext.trans y.ext, x.le.trans y.le, y.sub, fun p o e => ?_⟩
  rcases y.new p o e with h | h
  · exact x.new p o h
  · exact .inr (x.ext.none h)
/-- a state that holds all that stood, the frozen part as it is -/
theorem Grow.keep {fz : PH} {s : Shared} (hi : Inn fz s.heap) {h : Heap} {tk : Nat} (k : Ext s.heap h) : Grow fz s fz { s with heap := h, toks := tk } :=
  ⟨⟨h, tk, rfl⟩, k, PH.le.refl _, fun a o e => k a o (hi a o e), fun _ _ e => .inl e⟩
/-- the frozen part with one more object -/
noncomputable def PH.add (fz : PH) (a : Addr) (o : Obj) : PH := fun b => if b = a then some o else fz b
theorem PH.add_self (fz : PH) (a : Addr) (o : Obj) : PH.add fz a o a = some o := by simp [PH.add]
theorem PH.le_add {fz : PH} {a : Addr} {o : Obj} (h : fz a = none) : PH.le fz (PH.add fz a o) := fun b p e => by
  unfold PH.add
  by_cases q : b = a
  · subst q; rw [h] at e; cases e
  · rw [if_neg q]; exact e
theorem PH.none_of {fz : PH} {h : Heap} (hi : Inn fz h) {a : Addr} (e : h.get? a = none) : fz a = none := by
  cases q : fz a with
  | none => rfl
  | some o => rw [hi a o q] at e; cases e
theorem Grow.add {fz : PH} {s : Shared} (hi : Inn fz s.heap) {h : Heap} {tk : Nat} {a : Addr} {o : Obj} (k : Ext s.heap h) (ho : h.get? a = some o) (hn : s.heap.get? a = none) :
    Grow fz s (PH.add fz a o) { s with heap := h, toks := tk } := by
  refine ⟨⟨h, tk, rfl⟩, k, PH.le_add (PH.none_of hi hn), fun b p e => ?_, fun b p e => ?_⟩
  · unfold PH.add at e
    by_cases q : b = a
    · subst q; rw [if_pos rfl] at e; cases e; exact ho
    · rw [if_neg q] at e; exact k b p (hi b p e)
  · unfold PH.add at e
    by_cases q : b = a
    · subst q; exact .inr hn
    · rw [if_neg q] at e; exact .inl e
mutual
theorem Rd.mono {f g : PH} (hl : PH.le f g) : ∀ {v : Value} {d : PyData}, Rd f v d → Rd g v d
  | _, _, .none => .none
  | _, _, .bool b => .bool b
  | _, _, .int i t => .int i t
  | _, _, .str x t => .str x t
  | _, _, .list h c d z r => .list (hl _ _ h) c d z (RdAll.mono hl r)
  | _, _, .tuple h c d z r => .tuple (hl _ _ h) c d z (RdAll.mono hl r)
theorem RdAll.mono {f g : PH} (hl : PH.le f g) : ∀ {vs : List Value} {ds : List PyData}, RdAll f vs ds → RdAll g vs ds
  | _, _, .nil => .nil
  | _, _, .cons h r => .cons (Rd.mono hl h) (RdAll.mono hl r)
end
section
variable {fz : PH} {v : Value} {d : PyData} {vs ws : List Value} {ds es : List PyData}
theorem RdAll.length (h : RdAll fz vs ds) : vs.length = ds.length := by
  induction vs generalizing ds with
  | nil => cases h; rfl
  | cons v vs ih =>
    cases h with
    | cons _ r => rw [List.length_cons, List.length_cons, ih r]
theorem RdAll.append (h : RdAll fz vs ds) (k : RdAll fz ws es) : RdAll fz (vs ++ ws) (ds ++ es) := by
  induction vs generalizing ds with
  | nil => cases h; exact k
  | cons v vs ih =>
    cases h with
    | cons h r => exact .cons h (ih r)
theorem RdAll.get (h : RdAll fz vs ds) {k : Nat} {d : PyData} (hk : ds[k]? = some d) : ∃ v, vs[k]? = some v ∧ Rd fz v d := by
  induction vs generalizing ds k with
  | nil => cases h; simp at hk
  | cons v vs ih =>
    cases h with
    | cons h r =>
      cases k with
      | zero => simp at hk; subst hk; exact ⟨v, rfl, h⟩
      | succ k => simp at hk; simpa using ih r hk
theorem RdAll.getV (h : RdAll fz vs ds) {k : Nat} {v : Value} (hk : vs[k]? = some v) : ∃ d, ds[k]? = some d ∧ Rd fz v d := by
  induction vs generalizing ds k with
  | nil => simp at hk
  | cons w vs ih =>
    cases h with
    | cons h r =>
      cases k with
      | zero => simp at hk; subst hk; exact ⟨_, rfl, h⟩
      | succ k => simp at hk; simpa using ih r hk
theorem RdAll.take (h : RdAll fz vs ds) (n : Nat) : RdAll fz (vs.take n) (ds.take n) := by
  induction vs generalizing ds n with
  | nil => cases h; simp; exact .nil
  | cons v vs ih =>
    cases h with
    | cons h r =>
      cases n with
      | zero => simp; exact .nil
      | succ n => simp; exact .cons h (ih r n)
theorem RdAll.drop (h : RdAll fz vs ds) (n : Nat) : RdAll fz (vs.drop n) (ds.drop n) := by
  induction vs generalizing ds n with
  | nil => cases h; simp; exact .nil
  | cons v vs ih =>
    cases h with
    | cons h r =>
      cases n with
      | zero => simp; exact .cons h r
      | succ n => simp; exact ih r n
theorem RdAll.reverse (h : RdAll fz vs ds) : RdAll fz vs.reverse ds.reverse := by
  induction vs generalizing ds with
  | nil => cases h; exact .nil
  | cons v vs ih =>
    cases h with
    | cons h r => simp only [List.reverse_cons]; exact (ih r).append (.cons h .nil)
theorem RdAll.set (h : RdAll fz vs ds) (k : Nat) (hv : Rd fz v d) : RdAll fz (vs.set k v) (ds.set k d) := by
  induction vs generalizing ds k with
  | nil => cases h; simp; exact .nil
  | cons w vs ih =>
    cases h with
    | cons h r =>
      cases k with
      | zero => simp; exact .cons hv r
      | succ k => simp; exact .cons h (ih r k)
theorem RdAll.rep (h : RdAll fz vs ds) (n : Nat) : RdAll fz (List.replicate n vs).flatten (rep n ds) := by
  unfold Mine.rep
  induction n with
  | zero => simp; exact .nil
  | succ n ih => simp only [List.replicate_succ, List.flatten_cons]; exact h.append ih
end
mutual
theorem Rd.reads {fz : PH} {h : Heap} (hi : Inn fz h) : ∀ {v : Value} {d : PyData}, Rd fz v d → ∃ as, Reads h v d as
  | _, _, .none => ⟨_, Reads.none⟩
  | _, _, .bool b => ⟨_, Reads.bool b⟩
  | _, _, .int i t => ⟨_, Reads.int i t⟩
  | _, _, .str x t => ⟨_, Reads.str x t⟩
  | _, _, .list e c d _ r => by
    obtain ⟨as, q⟩ := RdAll.reads hi r
    exact ⟨_, Reads.list (hi _ _ e) c d q⟩
  | _, _, .tuple e c d _ r => by
    obtain ⟨as, q⟩ := RdAll.reads hi r
    exact ⟨_, Reads.tuple (hi _ _ e) c d q⟩
theorem RdAll.reads {fz : PH} {h : Heap} (hi : Inn fz h) : ∀ {vs : List Value} {ds : List PyData}, RdAll fz vs ds → ∃ as, ReadsAll h vs ds as
  | _, _, .nil => ⟨_, ReadsAll.nil⟩
  | _, _, .cons a r => by
    obtain ⟨as, q⟩ := Rd.reads hi a
    obtain ⟨bs, p⟩ := RdAll.reads hi r
    exact ⟨_, ReadsAll.cons q p⟩
end
/-- a value that may be an owned list -/
noncomputable def VRel (fz : PH) (h : Heap) (v : Value) (d : PyData) : Prop :=
  Rd fz v d ∨ ∃ a vs ds, v = .ref a ∧ d = .list ds ∧ PlainL h a vs ∧ vs.size ≤ 2 ^ 20 ∧ RdAll fz vs.toList ds
theorem VRel.grow {fz fz' : PH} {s s' : Shared} {v : Value} {d : PyData} (x : VRel fz s.heap v d) (g : Grow fz s fz' s') : VRel fz' s'.heap v d := by
  rcases x with x | ⟨a, vs, ds, e1, e2, p, z, r⟩
  · exact .inl (x.mono g.le)
  · exact .inr ⟨a, vs, ds, e1, e2, p.keeps g.ext, z, r.mono g.le⟩
theorem VRel.reads {fz : PH} {h : Heap} (hi : Inn fz h) {v : Value} {d : PyData} (x : VRel fz h v d) : ∃ as, Reads h v d as := by
  rcases x with x | ⟨a, vs, ds, rfl, rfl, ⟨o, n, ho, hc, _, hd⟩, _, r⟩
  · exact x.reads hi
  · obtain ⟨as, q⟩ := r.reads hi
    exact ⟨_, Reads.list ho hc hd q⟩
/-- what a list that is read is in the heap -/
theorem VRel.list {fz : PH} {h : Heap} (hi : Inn fz h) {v : Value} {ds : List PyData} (x : VRel fz h v (.list ds)) : ∃ a vs, v = .ref a ∧ h.IsList a vs ∧ vs.size ≤ 2 ^ 20 ∧ RdAll fz vs.toList ds := by
  rcases x with x | ⟨a, vs, ds', rfl, e, p, z, r⟩
  · cases x with
    | list e c d z r => exact ⟨_, _, rfl, ⟨_, hi _ _ e, c, _, d⟩, z, r⟩
  · cases e; exact ⟨a, vs, rfl, p.isList, z, r⟩
theorem VRel.tuple {fz : PH} {h : Heap} (hi : Inn fz h) {v : Value} {ds : List PyData} (x : VRel fz h v (.tuple ds)) : ∃ a vs, v = .ref a ∧ IsTup h a vs ∧ vs.size ≤ 2 ^ 20 ∧ RdAll fz vs.toList ds := by
  rcases x with x | ⟨a, vs, ds', rfl, e, p, z, r⟩
  · cases x with
    | tuple e c d z r => exact ⟨_, _, rfl, ⟨_, hi _ _ e, c, _, d⟩, z, r⟩
  · cases e
theorem VRel.int {fz : PH} {h : Heap} {v : Value} {i : Int} (x : VRel fz h v (.int i)) : ∃ t, v = .int i t := by
  rcases x with x | ⟨a, vs, ds', rfl, e, p, z, r⟩
  · cases x; exact ⟨_, rfl⟩
  · cases e
theorem VRel.bool {fz : PH} {h : Heap} {v : Value} {b : Bool} (x : VRel fz h v (.bool b)) : v = .bool b := by
  rcases x with x | ⟨a, vs, ds', rfl, e, p, z, r⟩
  · cases x; rfl
  · cases e
/-- what a name of the frame holds -/
noncomputable def VarAt (h : Heap) (env : Env) (x : Str) (v : Value) : Prop :=
  (env.kindOf x = some .local ∧ ∃ m, h.Ns env.locals m ∧ m x = some v) ∨
  ((env.kindOf x = some .cell ∨ env.kindOf x = some .free) ∧ ∃ c, env.cells.lookup x = some c ∧ h.IsCell c (some v))
theorem VarAt.ext {h h' : Heap} {env : Env} {x : Str} {v : Value} (a : VarAt h env x v) (e : Ext h h') : VarAt h' env x v := by
  rcases a with ⟨k, m, n, hm⟩ | ⟨k, c, hc, i⟩
  · exact .inl ⟨k, m, n.keeps e, hm⟩
  · exact .inr ⟨k, c, hc, i.keeps e⟩
structure EnvOK (kd : KD) (env : Env) : Prop where
  kdof : ∀ x, env.kindOf x = kd x
  fn : env.scope.kind = .function
  cells : ∀ x, kd x = some .cell ∨ kd x = some .free → ∃ c, env.cells.lookup x = some c
  glob : env.globals = mainGlobals
  bi : env.builtins = builtinsNs
  dbg : ∀ x, kd x ≠ none → (x == ("__debug__" : Str)) = false ∧ (x == ("__classdict__" : Str)) = false
structure Rel (fz : PH) (kd : KD) (env : Env) (σ : Sg) (h : Heap) : Prop where
  sh : ∀ x d, isVar kd x = true → σ.get x = some (.sh d) → ∃ v, VarAt h env x v ∧ Rd fz v d
  own : ∀ x ds, isVar kd x = true → σ.get x = some (.own ds) → ∃ a vs, VarAt h env x (.ref a) ∧ PlainL h a vs ∧ vs.size ≤ 2 ^ 20 ∧ RdAll fz vs.toList ds
theorem Rel.grow {fz fz' : PH} {s s' : Shared} {kd : KD} {env : Env} {σ : Sg} (x : Rel fz kd env σ s.heap) (g : Grow fz s fz' s') : Rel fz' kd env σ s'.heap := by
  refine ⟨fun y d h1 h2 => ?_, fun y ds h1 h2 => ?_⟩
  · obtain ⟨v, a, r⟩ := x.sh y d h1 h2
    exact ⟨v, a.ext g.ext, r.mono g.le⟩
  · obtain ⟨a, vs, va, p, z, r⟩ := x.own y ds h1 h2
    exact ⟨a, vs, va.ext g.ext, p.keeps g.ext, z, r.mono g.le⟩
structure AOK (n : Nat) (A : Around) : Prop where
  hd : A.handled = none
  dp : A.depth + n + 20 < recursionLimit
  un : A.units + 8 * n + 200 < cLine
theorem AOK.le {n m : Nat} {A : Around} (a : AOK n A) (h : m ≤ n) : AOK m A := by
  have h1 := a.dp
  have h2 := a.un
  exact ⟨a.hd, by (first | lia | omega), by (first | lia | omega)⟩
theorem AOK.in1 {n : Nat} {A : Around} (a : AOK (n + 1) A) : AOK n A.in1 := by
  have h1 := a.dp
  have h2 := a.un
  refine ⟨a.hd, ?_, ?_⟩
  · show A.depth + n + 20 < _
    (first | lia | omega)
  · show A.units + 1 + 8 * n + 200 < _
    (first | lia | omega)
theorem AOK.deeper {n : Nat} {A : Around} {env : Env} (a : AOK (n + 1) A) : AOK n (A.deeper env) := by
  have h1 := a.dp
  have h2 := a.un
  refine ⟨a.hd, ?_, ?_⟩
  · show A.depth + 1 + n + 20 < _
    (first | lia | omega)
  · show A.units + 3 + 8 * n + 200 < _
    (first | lia | omega)
/-- the state: the base heap's part, frozen -/
structure St (hB : Heap) (fz : PH) (s : Shared) : Prop where
  sub : Inn fz s.heap
  base : ∀ a o, hB.get? a = some o → fz a = some o
theorem St.grow {hB : Heap} {fz fz' : PH} {s s' : Shared} (x : St hB fz s) (g : Grow fz s fz' s') : St hB fz' s' := ⟨g.sub, fun a o e => g.le _ _ (x.base a o e)⟩
theorem St.ext {hB : Heap} {fz : PH} {s : Shared} (x : St hB fz s) : Ext hB s.heap := fun a o e => x.sub _ _ (x.base _ _ e)
section
variable (prog : Program) (w : World) (hB : Heap)
/-- a name of the module or of the built-ins, as any frame reads it -/
noncomputable def GName (x : Str) (v : Value) : Prop := ∀ (env : Env) (s : Shared) (A : Around) (Q : Value → Shared → Prop) (E : Value → Shared → Prop),
  env.scope.kind = .function → env.globals = mainGlobals → env.builtins = builtinsNs → env.kindOf x = some .globalImplicit → Ext hB s.heap → Q v s → wpAny (model prog w) A (loadName env x) Q E s
noncomputable def CallAt (n : Nat) (fa : Addr) (ds : List PyData) (d : PyData) : Prop :=
  ∀ (A : Around) (s : Shared) (fz : PH) (vs : List Value) (Q : Value → Shared → Prop) (E : Value → Shared → Prop), AOK n A → St hB fz s → RdAll fz vs ds →
    (∀ v fz' s', Grow fz s fz' s' → Rd fz' v d → Q v s') → wpAny (model prog w) A (call (.ref fa) vs) Q E s
noncomputable def MCallAt (n : Nat) (fa : Addr) (xs ds : List PyData) (d : PyData) (xs' : List PyData) : Prop :=
  ∀ (A : Around) (s : Shared) (fz : PH) (l : Addr) (us : Array Value) (vs : List Value) (Q : Value → Shared → Prop) (E : Value → Shared → Prop), AOK n A → St hB fz s → RdAll fz vs ds →
    fz l = none → PlainL s.heap l us → us.size ≤ 2 ^ 20 → RdAll fz us.toList xs →
    (∀ v fz' s' us', (∃ h tk, s' = { s with heap := h, toks := tk }) → (∀ b o, b ≠ l → s.heap.get? b = some o → s'.heap.get? b = some o) → PH.le fz fz' → Inn fz' s'.heap → (∀ a o, fz' a = some o → fz a = some o ∨ (a ≠ l ∧ s.heap.get? a = none)) →
      PlainL s'.heap l us' → us'.size ≤ 2 ^ 20 → RdAll fz' us'.toList xs' → Rd fz' v d → Q v s') →
    wpAny (model prog w) A (call (.ref fa) (.ref l :: vs)) Q E s
/-- a def of the text -/
noncomputable def IsDef (f : Str) (fa : Addr) : Prop := GName prog w hB f (.ref fa) ∧ ∃ o fd, hB.get? fa = some o ∧ o.data = .func fd
noncomputable def semC (ad : Str → Addr) (n : Nat) : Ctx where
  dfn := fun f => IsDef prog w hB f (ad f)
  call := fun f ds d => CallAt prog w hB n (ad f) ds d
  mcall := fun f xs ds d xs' => MCallAt prog w hB n (ad f) xs ds d xs'
  glob := fun x d => ∃ v, GName prog w hB x v ∧ Rd (fun a => hB.get? a) v d
noncomputable def biVal : Bi → Value
  | .abs => .builtin "abs"
  | .max => .builtin "max"
  | .min => .builtin "min"
  | .len => .builtin "len"
  | .sum => .builtin "sum"
  | .isinst => .builtin "isinstance"
  | .list => .type "list"
  | .int => .type "int"
structure Base : Prop where
  nolim : hB.NoLimit
  noseer : hB.NoSeer
  bi : ∀ f b, biOf f = some b → GName prog w hB f (biVal b)
  range : GName prog w hB (Str.ofString "range") (.type "range")
  enum : GName prog w hB (Str.ofString "enumerate") (.type "enumerate")
  str : GName prog w hB (Str.ofString "str") (.type "str")
structure SoundR (n : Nat) (R : Rec) : Prop where
  e : ∀ (kd : KD) (e : Expr) (σ : Sg) (k : PyData → Prop) (A : Around) (env : Env) (s : Shared) (fz : PH) (Q : Value → Shared → Prop) (E : Value → Shared → Prop),
    R.e kd e σ k → AOK (n + 1) A → EnvOK kd env → St hB fz s → Rel fz kd env σ s.heap → (∀ v d fz' s', Grow fz s fz' s' → Rd fz' v d → k d → Q v s') → wpAny (model prog w) A (eval e env) Q E s
  t : ∀ (kd : KD) (e : Expr) (σ : Sg) (k : Bool → Prop) (A : Around) (env : Env) (s : Shared) (fz : PH) (Q : Bool → Shared → Prop) (E : Value → Shared → Prop),
    R.t kd e σ k → AOK (n + 1) A → EnvOK kd env → St hB fz s → Rel fz kd env σ s.heap → (∀ b fz' s', Grow fz s fz' s' → k b → Q b s') → wpAny (model prog w) A (isTrue e env (eval e env)) Q E s
end
section
variable {prog : Program} {w : World} {hB : Heap} {n : Nat} {R : Rec} {kd : KD} {σ : Sg} {A : Around} {env : Env} {s : Shared} {fz : PH} {E : Value → Shared → Prop}
theorem isVar_ne {x : Str} (h : isVar kd x = true) : kd x ≠ none := by intro e; simp [isVar, e] at h
theorem load_var {x : Str} {v : Value} {Q : Value → Shared → Prop} (ok : EnvOK kd env) (hv : isVar kd x = true) (a : VarAt s.heap env x v) (h : Q v s) : wpAny (model prog w) A (loadName env x) Q E s := by
  rcases a with ⟨k, m, n, hm⟩ | ⟨k | k, c, hc, i⟩
  · exact wpAny_loadName_local ok.fn k n hm h
  · exact wpAny_loadName_cell ok.fn k hc i h
  · exact wpAny_loadName_free ok.fn k hc i h (ok.dbg x (isVar_ne hv)).2
theorem name_var {x : Str} {pos : Pos} {v : Value} {Q : Value → Shared → Prop} (ok : EnvOK kd env) (hv : isVar kd x = true) (a : VarAt s.heap env x v) (h : Q v s) : wpAny (model prog w) A (eval (.Name x pos) env) Q E s :=
  wpAny_Name (load_var ok hv a h) (ok.dbg x (isVar_ne hv)).1
theorem name_glob {x : Str} {pos : Pos} {v : Value} {Q : Value → Shared → Prop} (ok : EnvOK kd env) (hk : kd x = some .globalImplicit) (g : GName prog w hB x v) (st : St hB fz s) (h : Q v s) : wpAny (model prog w) A (eval (.Name x pos) env) Q E s :=
  wpAny_Name (g env s A Q E ok.fn ok.glob ok.bi ((ok.kdof x).trans hk) st.ext h) (ok.dbg x (by rw [hk]; exact fun e => nomatch e)).1
theorem rdE_sound (S : SoundR prog w hB n R) {e : Expr} {k : PyData → Prop} {Q : Value → Shared → Prop} (h : rdE R kd e σ k) (a : AOK (n + 1) A) (ok : EnvOK kd env) (st : St hB fz s) (r : Rel fz kd env σ s.heap)
    (hQ : ∀ v d fz' s', Grow fz s fz' s' → VRel fz' s'.heap v d → k d → Q v s') : wpAny (model prog w) A (eval e env) Q E s := by
  have plain : R.e kd e σ k → wpAny (model prog w) A (eval e env) Q E s := fun h => S.e _ _ _ _ _ _ _ _ _ _ h a ok st r fun v d fz' s' g rd hk => hQ v d fz' s' g (.inl rd) hk
  unfold rdE at h
  split at h
  · rcases h with ⟨hv, h⟩ | ⟨_, h⟩
    · unfold rdName at h
      split at h
      · rename_i d hg
        obtain ⟨v, va, rd⟩ := r.sh _ _ hv hg
        exact name_var ok hv va (hQ _ _ _ _ (Grow.refl st.sub) (.inl rd) h)
      · rename_i ds hg
        obtain ⟨a', vs, va, p, z, rd⟩ := r.own _ _ hv hg
        exact name_var ok hv va (hQ _ _ _ _ (Grow.refl st.sub) (.inr ⟨a', vs, ds, rfl, rfl, p, z, rd⟩) h)
      · exact h.elim
    · exact plain h
  · exact plain h
theorem starEach_cons {e : Expr} {r : List Expr} (h : notStar e = true) : starEach (e :: r) env = (false, eval e env) :: starEach r env := by
  cases e <;> first | rfl | (simp [notStar] at h)
theorem args1_sound (S : SoundR prog w hB n R) {pos : Pos} : ∀ {es : List Expr} {k : List PyData → Prop} {s : Shared} {fz : PH} {Q : List Value → Shared → Prop}, es.all notStar = true → wpArgs1 R kd es σ k → AOK (n + 1) A → EnvOK kd env → St hB fz s → Rel fz kd env σ s.heap →
    (∀ vs ds fz' s', Grow fz s fz' s' → RdAll fz' vs ds → ds.length = es.length → k ds → Q vs s') → wpAny (model prog w) A (spliced (backTo pos (starEach es env))) Q E s
  | [], k, s, fz, Q, _, h, a, ok, st, r, hQ => spliced_nil (hQ _ _ _ _ (Grow.refl st.sub) .nil rfl h)
  | e :: es, k, s, fz, Q, ns, h, a, ok, st, r, hQ => by
    simp only [List.all_cons, Bool.and_eq_true] at ns
    rw [starEach_cons ns.1]
    show wpAny _ _ (spliced ((false, eval e env) :: backTo pos (starEach es env))) Q E s
    refine spliced_cons (S.e _ _ _ _ _ _ _ _ _ _ h a ok st r fun v d fz' s' g rd hk => ?_)
    exact args1_sound S ns.2 hk a ok (st.grow g) (r.grow g) fun vs ds fz'' s'' g' rds hl hk' => hQ _ _ _ _ (g.trans g') (.cons (rd.mono g'.le) rds) (by rw [List.length_cons, hl, List.length_cons]) hk'
theorem args_sound (S : SoundR prog w hB n R) {pos : Pos} {es : List Expr} {k : List PyData → Prop} {Q : List Value → Shared → Prop} (h : wpArgs R kd es σ k) (a : AOK (n + 1) A) (ok : EnvOK kd env) (st : St hB fz s) (r : Rel fz kd env σ s.heap)
    (hQ : ∀ vs ds fz' s', Grow fz s fz' s' → RdAll fz' vs ds → k ds → Q vs s') : wpAny (model prog w) A (spliced (backTo pos (starEach es env))) Q E s :=
  args1_sound S h.1 h.2 a ok st r fun vs ds fz' s' g rd _ hk => hQ vs ds fz' s' g rd hk
theorem evalArgs_of {f : Value} {pos : Pos} {e : Expr} {r : List Expr} {Q : Args → Shared → Prop} (hs : notStar e = true)
    (h : wpAny (model prog w) A (spliced (backTo pos (starEach (e :: r) env))) (fun vs s' => Q ⟨vs, []⟩ s') E s) : wpAny (model prog w) A (evalArgs f true (backTo pos (starEach (e :: r) env)) []) Q E s := by
  rw [starEach_cons hs] at h ⊢
  exact evalArgs_plain h
theorem backTo_any {pos : Pos} : ∀ {es : List Expr}, es.all notStar = true → (backTo pos (starEach es env)).any (·.1) = false
  | [], _ => rfl
  | e :: es, h => by
    simp only [List.all_cons, Bool.and_eq_true] at h
    rw [starEach_cons h.1]
    show (false || (backTo pos (starEach es env)).any (·.1)) = false
    rw [backTo_any h.2]; rfl
theorem evalArgs_all {f : Value} {pos : Pos} {es : List Expr} {Q : Args → Shared → Prop} (hs : es.all notStar = true) (hne : es.isEmpty = false)
    (h : wpAny (model prog w) A (spliced (backTo pos (starEach es env))) (fun vs s' => Q ⟨vs, []⟩ s') E s) : wpAny (model prog w) A (evalArgs f true (backTo pos (starEach es env)) []) Q E s := by
  cases es with
  | nil => cases hne
  | cons e r =>
    simp only [List.all_cons, Bool.and_eq_true] at hs
    exact evalArgs_of hs.1 h
end
end Mine
end
section
open PySem PySem.W PyProof.Rows PySem.Spec PySem.Calls
namespace Mine
theorem Fit.log2 {x : Int} (h : Fit x) : x.natAbs.log2 < 4000 := by
  by_cases h0 : x.natAbs = 0
  · rw [h0]; decide
  · exact (Nat.log2_lt h0).mpr h
theorem Fit.bits {x : Int} (h : Fit x) : Builtin.Int.intBits x ≤ 4000 := by
  unfold Builtin.Int.intBits
  split
  · (first | lia | omega)
  · exact h.log2
theorem Fit.mulOk {x y : Int} (hx : Fit x) (hy : Fit y) : IntMulOk x y := by
  have h1 := hx.bits
  have h2 := hy.bits
  unfold IntMulOk
  have e : Builtin.Int.intTooBig (Builtin.Int.intBits x + Builtin.Int.intBits y) = false := by
    unfold Builtin.Int.intTooBig
    rw [decide_eq_false_iff_not]
    have : (bitsLine : Int) = 134217728 := by decide
    (first | lia | omega)
  rw [e]; simp
section
variable {prog : Program} {w : World} {hB : Heap} {n : Nat} {A : Around} {s : Shared} {fz : PH} {E : Value → Shared → Prop} {Q : Value → Shared → Prop}
theorem list_add_h {l b : Addr} {xs ys : Array Value} (hl : s.heap.IsList l xs) (hb : s.heap.IsList b ys) (hsz : xs.size + ys.size ≤ sizeLine)
    (h : Q (.ref s.heap.objs.size) { s with heap := s.heap.push { cls := .type "list", data := .seq (xs ++ ys) } }) : wpAny (model prog w) A (binaryOp .Add (.ref l) (.ref b)) Q E s := by
  obtain ⟨⟨c₁, d₁, t₁, l₁⟩, h₁, rfl, k₁, rfl⟩ := hl
  obtain ⟨⟨c₂, d₂, t₂, l₂⟩, h₂, rfl, k₂, rfl⟩ := hb
  exact concat_meets (T := "list") ⟨_, h₁, rfl⟩ ⟨_, h₂, rfl⟩ noFill_list_add seq_list_add PySem.F.slot_list_add PySem.F.entry_list_add (PySem.F.args_list_add_2 _ _) (list_addW l b xs ys k₁ k₂ d₁ d₂ l₁ l₂ hsz) ⟨h₁, h₂, h⟩
theorem bin_list_add {l b : Addr} {xs ys : Array Value} {ds es : List PyData} (st : St hB fz s) (hl : s.heap.IsList l xs) (hb : s.heap.IsList b ys) (rx : RdAll fz xs.toList ds) (ry : RdAll fz ys.toList es) (hz : ds.length + es.length ≤ 2 ^ 20)
    (h : ∀ v fz' s', Grow fz s fz' s' → Rd fz' v (.list (ds ++ es)) → Q v s') : wpAny (model prog w) A (binaryOp .Add (.ref l) (.ref b)) Q E s := by
  have e1 := rx.length
  have e2 := ry.length
  simp only [Array.length_toList] at e1 e2
  refine list_add_h hl hb (by rw [sizeLine_eq]; (first | lia | omega)) ?_
  have hn : s.heap.get? s.heap.objs.size = none := Heap.get?_none_of_le (Nat.le_refl _)
  have g := Grow.add (tk := s.toks) st.sub (o := ({ cls := .type "list", data := .seq (xs ++ ys) } : Obj)) (fun b o e => Heap.get?_push_of_some _ e) (Heap.get?_push_size s.heap rfl) hn
  refine h _ _ _ g (.list (PH.add_self ..) rfl rfl ?_ ?_)
  · rw [Array.size_append]; (first | lia | omega)
  · rw [Array.toList_append]; exact (rx.mono g.le).append (ry.mono g.le)
theorem foldl_rep (xs : Array Value) : ∀ (k : Nat) (acc : Array Value), (List.foldl (fun x1 x2 => x1 ++ x2) acc (List.replicate k xs)).toList = acc.toList ++ (List.replicate k xs.toList).flatten
  | 0, acc => by simp
  | k + 1, acc => by
    rw [List.replicate_succ, List.foldl_cons, foldl_rep xs k, List.replicate_succ, List.flatten_cons, Array.toList_append, List.append_assoc]
theorem list_mul_h {l : Addr} {xs : Array Value} {k : Nat} {x : Int} {u : Tok} (hl : s.heap.get? l = some { cls := .type "list", dict := none, data := .seq xs k, slots := #[] })
    (hlo : -(2 ^ 62 : Int) ≤ x) (hhi : x < 2 ^ 62) (hsz : xs.size * x.toNat ≤ 2 ^ 24)
    (h : Q (.ref s.heap.objs.size) { s with heap := s.heap.push { cls := .type "list", data := .seq (List.foldl (fun x1 x2 => x1 ++ x2) #[] (List.replicate (if xs.isEmpty = true then 0 else x.toNat) xs)) } }) :
    wpAny (model prog w) A (binaryOp .Mult (.ref l) (.int x u)) Q E s := by
  have hT : s.TypeIs (.ref l) "list" := ⟨_, hl, rfl⟩
  refine wpAny_binaryOp_repeat_ref (T := "list") (U := "int") (by decide) hT (fun s' => typeIs_int s' x u) noFill_list_mul F.fills_int_mul F.slot_int_rmul repeat_list F.slot_int_index.lookup ?_
  have inner := AutoListH.list___mul___list_int_3 l xs k x u (by simp [Builtin.List.listFitsIndex]; (first | lia | omega)) (by (first | lia | omega)) (by simp [Builtin.List.listTooLong, sizeLine]; (first | lia | omega))
  exact call_meets F.slot_int_rmul (typeIs_int s x u) F.entry_int_rmul (F.args_int_rmul_2 _ _) (int___rmul___int_list x u l xs k)
    ⟨hl, rfl, hT, call_meets F.slot_list_mul hT F.entry_list_mul (F.args_list_mul_2 _ _) inner ⟨hl, h⟩⟩
theorem bin_list_mul0 {l : Addr} {xs : Array Value} {k : Nat} {x : Int} {u : Tok} {ds : List PyData} (st : St hB fz s) (hl : s.heap.get? l = some { cls := .type "list", dict := none, data := .seq xs k, slots := #[] }) (rx : RdAll fz xs.toList ds)
    (h30 : ds.length ≤ 30) (hx : x ≤ 2 ^ 15) (hlo : -(2 ^ 62 : Int) ≤ x)
    (h : ∀ zs : Array Value, zs.size ≤ 2 ^ 20 → RdAll fz zs.toList (rep x.toNat ds) → Q (.ref s.heap.objs.size) { s with heap := s.heap.push { cls := .type "list", data := .seq zs } }) : wpAny (model prog w) A (binaryOp .Mult (.ref l) (.int x u)) Q E s := by
  have e1 := rx.length
  simp only [Array.length_toList] at e1
  have hm : xs.size * x.toNat ≤ 30 * 2 ^ 15 := Nat.mul_le_mul (by (first | lia | omega)) (by (first | lia | omega))
  refine list_mul_h hl hlo (by (first | lia | omega)) (by (first | lia | omega)) ?_
  have e : (List.foldl (fun x1 x2 => x1 ++ x2) #[] (List.replicate (if xs.isEmpty = true then 0 else x.toNat) xs)).toList = (List.replicate x.toNat xs.toList).flatten := by
    rw [foldl_rep]
    by_cases hE : xs.isEmpty = true
    · have : xs = #[] := by simpa using hE
      subst this
      simp
    · rw [if_neg hE]; simp
  have hlen : ((List.replicate x.toNat xs.toList).flatten).length = x.toNat * xs.size := by
    generalize x.toNat = m
    clear hm e
    induction m with
    | zero => simp
    | succ m ih => rw [List.replicate_succ, List.flatten_cons, List.length_append, ih, Array.length_toList, Nat.succ_mul, Nat.add_comm]
  refine h _ ?_ ?_
  · rw [← Array.length_toList, e, hlen, Nat.mul_comm]; (first | lia | omega)
  · rw [e]; exact rx.rep _
theorem bin_list_mul {l : Addr} {xs : Array Value} {k : Nat} {x : Int} {u : Tok} {ds : List PyData} (st : St hB fz s) (hl : s.heap.get? l = some { cls := .type "list", dict := none, data := .seq xs k, slots := #[] }) (rx : RdAll fz xs.toList ds)
    (h30 : ds.length ≤ 30) (hx : x ≤ 2 ^ 15) (hlo : -(2 ^ 62 : Int) ≤ x)
    (h : ∀ v fz' s', Grow fz s fz' s' → Rd fz' v (.list (rep x.toNat ds)) → Q v s') : wpAny (model prog w) A (binaryOp .Mult (.ref l) (.int x u)) Q E s := by
  refine bin_list_mul0 st hl rx h30 hx hlo fun zs hz hr => ?_
  have g := Grow.add (tk := s.toks) st.sub (o := ({ cls := .type "list", data := .seq zs } : Obj)) (fun b o e => Heap.get?_push_of_some _ e) (Heap.get?_push_size s.heap rfl) (Heap.get?_none_of_le (Nat.le_refl _))
  exact h _ _ _ g (.list (PH.add_self ..) rfl rfl hz (hr.mono g.le))
theorem b2i_eq (b : Bool) : Mine.b2i b = PyProof.Rows.b2i b := by cases b <;> rfl
theorem bin_sound {op : Operator} {va vb : Value} {a b : PyData} {k : PyData → Prop} (hk : wpBin op a b k) (st : St hB fz s) (ra : Rd fz va a) (rb : Rd fz vb b)
    (h : ∀ v d fz' s', Grow fz s fz' s' → Rd fz' v d → k d → Q v s') : wpAny (model prog w) A (binaryOp op va vb) Q E s := by
  have tok : ∀ v d, Rd fz v d → k d → Q v { s with toks := s.toks + 1 } := fun v d r hk => h v d fz _ (Grow.tok st.sub _) r hk
  unfold wpBin at hk
  split at hk
  · -- Add
    cases ra with
    | int i t =>
      cases rb <;> first | exact hk.elim | skip
      exact add_int (tok _ _ (.int _ _) hk)
    | list e c d z r =>
      cases rb <;> first | exact hk.elim | skip
      rename_i e' c' d' z' r'
      exact bin_list_add st ⟨_, st.sub _ _ e, c, _, d⟩ ⟨_, st.sub _ _ e', c', _, d'⟩ r r' hk.1 fun v fz' s' g rd => h _ _ _ _ g rd hk.2
    | _ => exact hk.elim
  · cases ra with
    | int i t =>
      cases rb <;> first | exact hk.elim | skip
      exact sub_int (tok _ _ (.int _ _) hk)
    | bool p =>
      cases rb <;> first | exact hk.elim | skip
      refine sub_bool (tok _ _ (.int _ _) ?_)
      rw [← b2i_eq, ← b2i_eq]; exact hk
    | _ => exact hk.elim
  · cases ra with
    | int i t =>
      cases rb <;> first | exact hk.elim | skip
      exact mul_int (tok _ _ (.int _ _) hk.2.2) (hk.1.mulOk hk.2.1)
    | _ => exact hk.elim
  · cases ra <;> first | exact hk.elim | skip
    cases rb <;> first | exact hk.elim | skip
    exact floordiv_int hk.1 (tok _ _ (.int _ _) hk.2.2) (.inl (PyProof.noPylong_of_log2 (Nat.lt_trans hk.2.1.log2 (by decide))))
  · cases ra <;> first | exact hk.elim | skip
    cases rb <;> first | exact hk.elim | skip
    exact mod_int' hk.1 (tok _ _ (.int _ _) hk.2)
  · cases ra <;> first | exact hk.elim | skip
    cases rb <;> first | exact hk.elim | skip
    obtain ⟨h0, h1, hf, hk⟩ := hk
    refine pow_int h0 ?_ (tok _ _ (.int _ _) hk)
    have hb := hf.bits
    exact Int.le_trans (Int.mul_le_mul (Int.ofNat_le.mpr hb) h1 h0 (by (first | lia | omega))) (by decide)
  · exact hk.elim
theorem cmp_int_sound {op : CmpOp} {i j : Int} {t u : Tok} {a : Bool} (st : St hB fz s)
    (e : (op = .Lt ∧ a = decide (i < j)) ∨ (op = .Gt ∧ a = decide (j < i)) ∨ (op = .LtE ∧ a = decide (i ≤ j)) ∨ (op = .GtE ∧ a = decide (j ≤ i)) ∨ (op = .Eq ∧ a = decide (i = j)) ∨ (op = .NotEq ∧ a = !decide (i = j)))
    (h : Q (.bool a) s) : wpAny (model prog w) A (compareOp op (.int i t) (.int j u)) Q E s := by
  rcases e with ⟨rfl, rfl⟩ | ⟨rfl, rfl⟩ | ⟨rfl, rfl⟩ | ⟨rfl, rfl⟩ | ⟨rfl, rfl⟩ | ⟨rfl, rfl⟩
  · exact lt_int h
  · exact gt_int h
  · exact le_int h
  · exact ge_int h
  · refine eq_int ?_
    have : (i == j) = decide (i = j) := by by_cases q : i = j <;> simp [q]
    rw [this]; exact h
  · refine ne_int ?_
    have : (i != j) = !decide (i = j) := by by_cases q : i = j <;> simp [q]
    rw [this]; exact h
theorem eqD_sound {neg : Bool} {va vb : Value} {a b : PyData} {k : Bool → Prop} (hk : eqD a b k) (hA : A.units + 64 < cLine) (st : St hB fz s) (ra : VRel fz s.heap va a) (rb : VRel fz s.heap vb b)
    (h : ∀ c, k c → Q (.bool (if neg then !c else c)) s) : wpAny (model prog w) A (compareOp (if neg then .NotEq else .Eq) va vb) Q E s := by
  have gen : SeqAt.shaped a = true → SeqAt.shaped b = true → k (PyData.eqv a b) → wpAny (model prog w) A (compareOp (if neg then .NotEq else .Eq) va vb) Q E s := by
    intro h1 h2 hk
    obtain ⟨as, ra⟩ := ra.reads st.sub
    obtain ⟨bs, rb⟩ := rb.reads st.sub
    cases neg
    · exact eq_dataH ra rb h1 h2 hA (h _ hk)
    · exact ne_dataH ra rb h1 h2 hA (h _ hk)
  unfold eqD at hk
  split at hk
  · rename_i x
    cases b <;> first | exact hk.elim | skip
    rename_i y
    obtain ⟨t, rfl⟩ := ra.int
    obtain ⟨u, rfl⟩ := rb.int
    cases neg
    · exact cmp_int_sound (op := .Eq) st (by simp) (h _ hk)
    · exact cmp_int_sound (op := .NotEq) st (by simp) (h _ hk)
  · exact gen hk.1 hk.2.1 hk.2.2
theorem cmp_sound {op : CmpOp} {va vb : Value} {a b : PyData} {k : Bool → Prop} (hk : wpCmp op a b k) (hA : A.units + 64 < cLine) (st : St hB fz s) (ra : VRel fz s.heap va a) (rb : VRel fz s.heap vb b)
    (h : ∀ c, k c → Q (.bool c) s) : wpAny (model prog w) A (compareOp op va vb) Q E s := by
  unfold wpCmp at hk
  split at hk
  · exact eqD_sound (neg := false) hk hA st ra rb h
  · exact eqD_sound (neg := true) (k := fun c => k (!c)) hk hA st ra rb fun c hc => h _ hc
  all_goals first
    | exact hk.elim
    | (cases a <;> first | exact hk.elim | skip
       cases b <;> first | exact hk.elim | skip
       obtain ⟨t, rfl⟩ := ra.int
       obtain ⟨u, rfl⟩ := rb.int
       exact cmp_int_sound st (by simp) (h _ hk))
end
end Mine
end
section
open PySem PySem.W PyProof.Rows PySem.Spec PySem.Calls
namespace Mine
theorem biOf_cases {f : Str} {b : Bi} (h : biOf f = some b) : True := trivial
section
variable {prog : Program} {w : World} {hB : Heap} {n : Nat} {A : Around} {s : Shared} {fz : PH} {E : Value → Shared → Prop} {Q : Value → Shared → Prop}
theorem RdAll.one {v : Value} {d : PyData} {vs : List Value} (h : RdAll fz vs [d]) : ∃ v, vs = [v] ∧ Rd fz v d := by
  cases h with
  | cons h r => cases r; exact ⟨_, rfl, h⟩
theorem RdAll.single {d : PyData} {vs : List Value} (h : RdAll fz vs [d]) : ∃ v, vs = [v] ∧ Rd fz v d := by
  cases h with
  | cons h r => cases r; exact ⟨_, rfl, h⟩
theorem RdAll.two {d e : PyData} {vs : List Value} (h : RdAll fz vs [d, e]) : ∃ v u, vs = [v, u] ∧ Rd fz v d ∧ Rd fz u e := by
  cases h with
  | cons h r => obtain ⟨u, rfl, q⟩ := r.single; exact ⟨_, _, rfl, h, q⟩
theorem ints_at : ∀ {vs : List Value} {ns : List Int}, RdAll fz vs (ns.map PyData.int) → ∀ (i : Nat) (v : Value), vs[i]? = some v → ∃ t, v = .int (ns.getD i 0) t
  | [], _, _, i, v, h => by simp at h
  | u :: vs, [], h, i, v, hv => by cases h
  | u :: vs, x :: ns, h, i, v, hv => by
    cases h with
    | cons h r =>
      cases i with
      | zero => simp at hv; subst hv; cases h; exact ⟨_, rfl⟩
      | succ i => simp at hv; simpa using ints_at r i v hv
theorem preSum_take (ns : List Int) : ∀ j, j ≤ ns.length → preSum (fun i => ns.getD i 0) j = (ns.take j).sum
  | 0, _ => by simp [preSum]
  | j + 1, h => by
    rw [preSum, preSum_take ns j (by (first | lia | omega)), List.take_add_one]
    have e : ns[j]? = some (ns.getD j 0) := by rw [List.getD_eq_getElem?_getD, List.getElem?_eq_getElem (by (first | lia | omega))]; rfl
    rw [e]; simp
theorem abs_h {i : Int} {t : Tok} (st : St hB fz s) (h : ∀ v fz' s', Grow fz s fz' s' → Rd fz' v (.int (i.natAbs : Int)) → Q v s') : wpAny (model prog w) A (call (.builtin "abs") [.int i t]) Q E s := by
  refine call_abs_int fun u tk => ?_
  have e : (if i < 0 then -i else i) = (i.natAbs : Int) := by split <;> (first | lia | omega)
  rw [e]
  exact h _ fz _ (Grow.tok st.sub _) (.int _ _)
theorem max_h {i j : Int} {t u : Tok} (hh : A.handled = none) (st : St hB fz s) (h : ∀ v fz' s', Grow fz s fz' s' → Rd fz' v (.int (if j > i then j else i)) → Q v s') : wpAny (model prog w) A (call (.builtin "max") [.int i t, .int j u]) Q E s := by
  refine max_two_ints hh fun h' tk hk => h _ fz _ (Grow.keep st.sub hk) ?_
  by_cases c : j > i
  · rw [if_pos c, if_pos c]; exact .int _ _
  · rw [if_neg c, if_neg c]; exact .int _ _
theorem min_h {i j : Int} {t u : Tok} (hh : A.handled = none) (st : St hB fz s) (h : ∀ v fz' s', Grow fz s fz' s' → Rd fz' v (.int (if j < i then j else i)) → Q v s') : wpAny (model prog w) A (call (.builtin "min") [.int i t, .int j u]) Q E s := by
  refine min_two_ints hh fun h' tk hk => h _ fz _ (Grow.keep st.sub hk) ?_
  by_cases c : j < i
  · rw [if_pos c, if_pos c]; exact .int _ _
  · rw [if_neg c, if_neg c]; exact .int _ _
theorem len_h {v : Value} {d : PyData} {k : List PyData → Prop} (st : St hB fz s) (r : VRel fz s.heap v d) (hk : asSeq d k) (h : ∀ ds v fz' s', Grow fz s fz' s' → Rd fz' v (.int (ds.length : Nat)) → k ds → Q v s') : wpAny (model prog w) A (call (.builtin "len") [v]) Q E s := by
  unfold asSeq at hk
  split at hk
  · obtain ⟨a, vs, rfl, hl, z, rd⟩ := r.list st.sub
    have e := rd.length
    rw [Array.length_toList] at e
    refine Calls.call_len_list hl (by (first | lia | omega)) (h _ _ fz _ (Grow.tok st.sub _) ?_ hk)
    rw [e]; exact .int _ _
  · obtain ⟨a, vs, rfl, hl, z, rd⟩ := r.tuple st.sub
    have e := rd.length
    rw [Array.length_toList] at e
    refine PyProof.Rows.len_tuple hl (by (first | lia | omega)) (h _ _ fz _ (Grow.tok st.sub _) ?_ hk)
    rw [e]; exact .int _ _
  · exact hk.elim
theorem list_h {v : Value} {ds : List PyData} (st : St hB fz s) (r : Rd fz v (.list ds)) (h : ∀ v fz' s', Grow fz s fz' s' → Rd fz' v (.list ds) → Q v s') : wpAny (model prog w) A (call (.type "list") [v]) Q E s := by
  cases r with
  | list e c d z r =>
    refine call_list_seq _ (.inl rfl) (st.sub _ _ e) c d (fun h' c' hk hS => ?_) (by rw [sizeLine_eq]; (first | lia | omega))
    have g := Grow.add (tk := s.toks) st.sub hk hS (Heap.get?_none_of_le (Nat.le_refl _))
    exact h _ _ _ g (.list (PH.add_self ..) rfl rfl z (r.mono g.le))
theorem sum_h {v : Value} {ns : List Int} (a : A.handled = none) (st : St hB fz s) (r : Rd fz v (.list (ns.map PyData.int))) (h : ∀ v fz' s', Grow fz s fz' s' → Rd fz' v (.int ns.sum) → Q v s') : wpAny (model prog w) A (call (.builtin "sum") [v]) Q E s := by
  cases r with
  | @list a' o vs k xs e c d z r =>
    have hl : s.heap.IsList a' vs := ⟨_, st.sub _ _ e, c, _, d⟩
    have hlt : a' ≠ s.heap.objs.size := Nat.ne_of_lt (Heap.lt_size (st.sub _ _ e))
    have hlen := r.length
    simp only [Array.length_toList, List.length_map] at hlen
    refine call_sum_walkG (wpAny_pyIter_list hl ?_)
    refine ⟨_, [s.heap.objs.size, a'], [s.heap.objs.size], vs.size, _, _, fun i => ns.getD i 0, rfl, Walks.list (A := A.in1) a s.heap.objs.size a' hlt vs, ⟨⟨_, Heap.get?_push_size _ rfl, rfl, rfl⟩, hl.push _⟩, ?_, ?_, ?_⟩
    · intro b hb
      rw [Heap.size_push]
      rcases List.mem_cons.mp hb with rfl | hb
      · exact Nat.lt_succ_self _
      · rw [List.mem_singleton.mp hb]; exact Nat.lt_succ_of_lt (Heap.lt_size (st.sub _ _ e))
    · intro i v hv
      exact ints_at r i v (by rw [Array.getElem?_toList]; exact hv)
    · intro h' tk t' hk
      rw [preSum_take ns _ (by (first | lia | omega)), List.take_of_length_le (by (first | lia | omega))]
      refine h _ fz _ (Grow.keep st.sub fun b o e' => hk b o ?_ (Heap.get?_push_of_some _ e')) (.int _ _)
      intro hm
      rw [List.mem_singleton.mp hm] at e'
      exact absurd (Heap.lt_size e') (Nat.lt_irrefl _)
end
section
variable {prog : Program} {w : World} {hB : Heap} {n : Nat} {R : Rec} {kd : KD} {σ : Sg} {A : Around} {env : Env} {s : Shared} {fz : PH} {E : Value → Shared → Prop} {Q : Value → Shared → Prop}
theorem rdE_notStar {e : Expr} {k : PyData → Prop} : True := trivial
theorem bi_sound (B : Base prog w hB) (S : SoundR prog w hB n R) {b : Bi} {args : List Expr} {k : PyData → Prop} {f : Str} {fp pos : Pos} (hb : biOf f = some b) (hne : args.isEmpty = false) (hf : kd f = some .globalImplicit) (hk : wpBi R kd b args σ k)
    (a : AOK (n + 1) A) (ok : EnvOK kd env) (st : St hB fz s) (r : Rel fz kd env σ s.heap) (hQ : ∀ v d fz' s', Grow fz s fz' s' → Rd fz' v d → k d → Q v s') : wpAny (model prog w) A (eval (.Call (.Name f fp) args [] pos) env) Q E s := by
  refine Call_Name rfl (name_glob ok hf (B.bi f b hb) st ?_)
  -- the plain ones
  have built : ∀ (id : String) (K : List PyData → Prop), wpArgs R kd args σ K → (∀ vs ds fz' s', Grow fz s fz' s' → RdAll fz' vs ds → K ds → wpAny (model prog w) A (call (.builtin id) vs) Q E s') →
      wpAny (model prog w) A (callWith pos (.builtin id) [] (backTo pos (starEach args env)) []) Q E s := fun id K h hc =>
    Calls.callWith_builtin (backTo_any h.1) (evalArgs_all h.1 hne (args_sound S h a ok st r fun vs ds fz' s' g rd hk => hc vs ds fz' s' g rd hk))
  have typed : ∀ (id : String) (K : List PyData → Prop), wpArgs R kd args σ K → (∀ vs ds fz' s', Grow fz s fz' s' → RdAll fz' vs ds → K ds → wpAny (model prog w) A (call (.type id) vs) Q E s') →
      wpAny (model prog w) A (callWith pos (.type id) [] (backTo pos (starEach args env)) []) Q E s := fun id K h hc =>
    PyProof.Rows.callWith_type (backTo_any h.1) (evalArgs_all h.1 hne (args_sound S h a ok st r fun vs ds fz' s' g rd hk => hc vs ds fz' s' g rd hk))
  cases b with
  | len =>
    unfold wpBi at hk
    dsimp only at hk
    split at hk
    · rename_i e
      obtain ⟨ns, hk⟩ := hk
      have ns' : ([e] : List Expr).all notStar = true := by simp [ns]
      refine Calls.callWith_builtin (backTo_any ns') (evalArgs_all ns' rfl ?_)
      rw [starEach_cons ns]
      refine spliced_cons (rdE_sound S hk a ok st r fun v d fz' s' g vr hd => spliced_nil ?_)
      exact len_h (st.grow g) vr hd fun ds v' fz'' s'' g' rd' hk' => hQ _ _ _ _ (g.trans g') rd' hk'
    · exact hk.elim
  | isinst =>
    unfold wpBi at hk
    dsimp only at hk
    split at hk
    · rename_i e t tp
      obtain ⟨ns, ht, hkt, hk⟩ := hk
      have ns' : ([e, Expr.Name t tp] : List Expr).all notStar = true := by rw [List.all_cons, ns]; rfl
      refine Calls.callWith_builtin (backTo_any ns') (evalArgs_all ns' rfl ?_)
      rw [starEach_cons ns]
      refine spliced_cons (S.e _ _ _ _ _ _ _ _ _ _ hk a ok st r fun v d fz' s' g rd hd => ?_)
      rw [starEach_cons rfl]
      refine spliced_cons ?_
      subst ht
      refine name_glob ok hkt B.str (st.grow g) (spliced_nil ?_)
      cases rd <;> first | exact hd.elim | skip
      exact IsiPair.str_str (hQ _ _ _ _ g (.bool _) hd)
    · exact hk.elim
  | abs =>
    refine built "abs" _ hk fun vs ds fz' s' g rd hd => ?_
    split at hd
    · obtain ⟨v, rfl, q⟩ := rd.single
      cases q <;> first | exact hd.elim | skip
      exact abs_h (st.grow g) fun v fz'' s'' g' rd' => hQ _ _ _ _ (g.trans g') rd' hd
    · exact hd.elim
  | max =>
    refine built "max" _ hk fun vs ds fz' s' g rd hd => ?_
    split at hd
    · obtain ⟨v, u, rfl, q, q'⟩ := rd.two
      cases q <;> first | exact hd.elim | skip
      cases q' <;> first | exact hd.elim | skip
      exact max_h a.hd (st.grow g) fun v fz'' s'' g' rd' => hQ _ _ _ _ (g.trans g') rd' hd
    · exact hd.elim
  | min =>
    refine built "min" _ hk fun vs ds fz' s' g rd hd => ?_
    split at hd
    · obtain ⟨v, u, rfl, q, q'⟩ := rd.two
      cases q <;> first | exact hd.elim | skip
      cases q' <;> first | exact hd.elim | skip
      exact min_h a.hd (st.grow g) fun v fz'' s'' g' rd' => hQ _ _ _ _ (g.trans g') rd' hd
    · exact hd.elim
  | list =>
    refine typed "list" _ hk fun vs ds fz' s' g rd hd => ?_
    split at hd
    · obtain ⟨v, rfl, q⟩ := rd.single
      unfold asList at hd
      split at hd
      · exact list_h (st.grow g) q fun v fz'' s'' g' rd => hQ _ _ _ _ (g.trans g') rd hd
      · exact hd.elim
    · exact hd.elim
  | sum =>
    refine built "sum" _ hk fun vs ds fz' s' g rd hd => ?_
    split at hd
    · obtain ⟨v, rfl, q⟩ := rd.single
      unfold asList at hd
      split at hd
      · obtain ⟨ns, rfl, hd⟩ := hd
        exact sum_h a.hd (st.grow g) q fun v fz'' s'' g' rd => hQ _ _ _ _ (g.trans g') rd hd
      · exact hd.elim
    · exact hd.elim
  | int =>
    refine typed "int" _ hk fun vs ds fz' s' g rd hd => ?_
    split at hd
    · obtain ⟨v, rfl, q⟩ := rd.single
      cases q <;> first | exact hd.elim | skip
      exact call_int_int (hQ _ _ _ _ g (.int _ _) hd)
    · exact hd.elim
theorem callN_sound {ad : Str → Addr} (B : Base prog w hB) (S : SoundR prog w hB n R) {args : List Expr} {k : PyData → Prop} {f : Str} {fp pos : Pos} (hk : wpCallN (semC prog w hB ad n) R kd f args σ k)
    (a : AOK (n + 1) A) (ok : EnvOK kd env) (st : St hB fz s) (r : Rel fz kd env σ s.heap) (hQ : ∀ v d fz' s', Grow fz s fz' s' → Rd fz' v d → k d → Q v s') : wpAny (model prog w) A (eval (.Call (.Name f fp) args [] pos) env) Q E s := by
  obtain ⟨hf, hne, hk⟩ := hk
  split at hk
  · rename_i b hb
    exact bi_sound B S hb hne hf hk a ok st r hQ
  · obtain ⟨⟨hG, o, fd, ho, hd⟩, hk⟩ := hk
    refine Call_Name rfl (name_glob ok hf hG st ?_)
    refine Calls.callWith_function (o := o) (fd := fd) (evalArgs_all hk.1 hne (args_sound S hk a ok st r fun vs ds fz' s' g rd hk' => ?_))
    obtain ⟨d, hc, hk'⟩ := hk'
    refine ⟨⟨(st.grow g).ext _ _ ho, hd⟩, ?_⟩
    exact hc A s' fz' vs Q E (a.le (Nat.le_succ n)) (st.grow g) rd fun v fz'' s'' g' rd' => hQ _ _ _ _ (g.trans g') rd' hk'
end
end Mine
end
section
open PySem PySem.W PyProof.Rows PySem.Spec PySem.Calls
namespace Mine
section
variable {prog : Program} {w : World} {hB : Heap} {n : Nat} {A : Around} {s : Shared} {fz : PH} {E : Value → Shared → Prop} {Q : Value → Shared → Prop}
theorem subscripted_plain (sl : Expr) (o i : Value) : ∃ ops, subscripted sl false o i = operate ops (getItem o i) := by
  unfold subscripted
  split
  · exact ⟨_, rfl⟩
  · contradiction
  · exact ⟨_, rfl⟩
theorem pyAt_facts {ds : List PyData} {j : Int} {x : PyData} (h : pyAt ds j = some x) :
    (0 ≤ j ∧ j < ds.length ∧ ds[j.toNat]? = some x) ∨ (j < 0 ∧ 0 ≤ j + ds.length ∧ ds[(j + ds.length).toNat]? = some x) := by
  unfold pyAt at h
  split at h
  · rename_i h0
    obtain ⟨hl, _⟩ := List.getElem?_eq_some_iff.mp h
    exact .inl ⟨h0, by (first | lia | omega), h⟩
  · rename_i h0
    split at h
    · rename_i h1; exact .inr ⟨by (first | lia | omega), h1, h⟩
    · cases h
theorem item_sound {value sl : Expr} {vo vi : Value} {d i : PyData} {k : PyData → Prop} (hk : itemD d i k) (st : St hB fz s) (ro : VRel fz s.heap vo d) (ri : Rd fz vi i)
    (h : ∀ v d, Rd fz v d → k d → Q v s) : wpAny (model prog w) A (subscriptTail value sl vo vi) Q E s := by
  unfold itemD asSeq at hk
  obtain ⟨ops, hs⟩ := subscripted_plain sl vo vi
  split at hk
  · rename_i ds
    cases ri <;> first | exact hk.elim | skip
    rename_i j t
    obtain ⟨x, hx, hk⟩ := hk
    obtain ⟨a, vs, rfl, hl, z, rd⟩ := ro.list st.sub
    have e := rd.length
    rw [Array.length_toList] at e
    refine tail_any hl.typeIs list_getitem_lookup ?_ hs
    rcases pyAt_facts hx with ⟨h0, h1, hx⟩ | ⟨h0, h1, hx⟩
    · obtain ⟨v, hv, r⟩ := rd.get hx
      exact wpAny_getItem_list hl h0 (by (first | lia | omega)) (by rw [← Array.getElem?_toList]; exact hv) (h _ _ r hk)
    · obtain ⟨v, hv, r⟩ := rd.get hx
      exact wpAny_getItem_list_neg hl h0 (by (first | lia | omega)) (by (first | lia | omega)) (by rw [← Array.getElem?_toList, e]; exact hv) (h _ _ r hk)
  · rename_i ds
    cases ri <;> first | exact hk.elim | skip
    rename_i j t
    obtain ⟨x, hx, hk⟩ := hk
    obtain ⟨a, vs, rfl, hl, z, rd⟩ := ro.tuple st.sub
    have e := rd.length
    rw [Array.length_toList] at e
    refine tail_any hl.typeIs slot_tuple_getitem.lookup ?_ hs
    rcases pyAt_facts hx with ⟨h0, h1, hx⟩ | ⟨h0, h1, hx⟩
    · obtain ⟨v, hv, r⟩ := rd.get hx
      refine PyProof.Rows.getItem_tuple (j := j.toNat) hl (by (first | lia | omega)) (by (first | lia | omega)) ?_ (by rw [← Array.getElem?_toList]; exact hv) (h _ _ r hk)
      have q : ¬ j < 0 := by (first | lia | omega)
      simp only [seqIndex?, q, if_false]
      rw [if_pos (by simp; (first | lia | omega))]
    · obtain ⟨v, hv, r⟩ := rd.get hx
      refine PyProof.Rows.getItem_tuple (j := (j + ds.length).toNat) hl (by (first | lia | omega)) (by (first | lia | omega)) ?_ (by rw [← Array.getElem?_toList]; exact hv) (h _ _ r hk)
      simp only [seqIndex?, h0, if_true]
      rw [if_pos (by simp; (first | lia | omega)), e]
  · exact hk.elim
theorem slice_pick {vs : Array Value} {ds xs : List PyData} {lo hi st : Option Int} (r : RdAll fz vs.toList ds) (h : sliceD ds lo hi st = some xs) :
    RdAll fz (slicePick vs lo hi st).toList xs ∧ st ≠ some 0 := by
  unfold sliceD at h
  split at h
  · split at h
    · split at h
      · rename_i c
        split at h
        · rename_i h0
          cases h
          obtain ⟨m, rfl⟩ := Int.eq_ofNat_of_zero_le h0
          refine ⟨?_, by simp⟩
          rw [slicePick_upto']
          simpa using r.take m
        · cases h
      · cases h
    · split at h
      · rename_i c _
        split at h
        · rename_i h0
          cases h
          obtain ⟨m, rfl⟩ := Int.eq_ofNat_of_zero_le h0
          refine ⟨?_, by simp⟩
          rw [slicePick_from']
          simpa using r.drop m
        · cases h
      · cases h
  · split at h
    · split at h
      · split at h
        · rename_i h0
          subst h0
          cases h
          refine ⟨?_, by decide⟩
          rw [krv_pick]
          simpa using r.reverse
        · cases h
      · cases h
    · cases h
end
section
variable {prog : Program} {w : World} {hB : Heap} {n : Nat} {R : Rec} {kd : KD} {σ : Sg} {A : Around} {env : Env} {s : Shared} {fz : PH} {E : Value → Shared → Prop} {Q : Value → Shared → Prop}
theorem part_sound (S : SoundR prog w hB n R) {e : Option Expr} {k : Option Int → Prop} (hk : wpPart R kd e σ k) (a : AOK (n + 1) A) (ok : EnvOK kd env) (st : St hB fz s) (r : Rel fz kd env σ s.heap)
    (hQ : ∀ v c fz' s', Grow fz s fz' s' → IsPart v c → k c → Q v s') : wpAny (model prog w) A (evalPart e env) Q E s := by
  unfold wpPart at hk
  split at hk
  · rw [evalPart_none]; exact wpAny_pure (hQ _ _ _ _ (Grow.refl st.sub) .none hk)
  · rw [evalPart_some]
    refine S.e _ _ _ _ _ _ _ _ _ _ hk a ok st r fun v d fz' s' g rd hd => ?_
    cases rd <;> first | exact hd.elim | skip
    exact hQ _ _ _ _ g (.int _ _) hd
theorem sub_sound (S : SoundR prog w hB n R) {v sl : Expr} {pos : Pos} {k : PyData → Prop} (hk : wpSub R kd v sl σ k) (a : AOK (n + 1) A) (ok : EnvOK kd env) (st : St hB fz s) (r : Rel fz kd env σ s.heap)
    (hQ : ∀ v d fz' s', Grow fz s fz' s' → Rd fz' v d → k d → Q v s') : wpAny (model prog w) A (eval (.Subscript v sl pos) env) Q E s := by
  unfold wpSub at hk
  refine Subscript_ (rdE_sound S hk a ok st r fun vo d fz1 s1 g1 vr hd => ?_)
  have st1 := st.grow g1
  have r1 := r.grow g1
  split at hd
  · rename_i lo hi stp p
    cases d <;> first | exact hd.elim | skip
    rename_i ds
    dsimp only [asList] at hd
    refine wpAny_Slice (part_sound S hd a ok st1 r1 fun vl l fz2 s2 g2 pl hd => ?_)
    have st2 := st1.grow g2
    have r2 := r1.grow g2
    refine part_sound S hd a ok st2 r2 fun vu u fz3 s3 g3 pu hd => ?_
    have st3 := st2.grow g3
    have r3 := r2.grow g3
    refine part_sound S hd a ok st3 r3 fun vc c fz4 s4 g4 pc hd => ?_
    have st4 := st3.grow g4
    obtain ⟨xs, hx, hd⟩ := hd
    have vr4 := ((vr.grow g2).grow g3).grow g4
    obtain ⟨la, vs, rfl, hl, z, rd⟩ := vr4.list st4.sub
    obtain ⟨rp, hc⟩ := slice_pick rd hx
    obtain ⟨ops, hs⟩ := subscripted_plain (.Slice lo hi stp p) (.ref la) (.ref s4.heap.objs.size)
    have hne : s4.heap.get? s4.heap.objs.size = none := Heap.get?_none_of_le (Nat.le_refl _)
    refine tail_any (hl.push _).typeIs list_getitem_lookup ?_ hs
    refine wpAny_getItem_list_slice (hl.push _) (Heap.IsSliceOf.new ..) pl pu pc hc ?_ (by rw [sizeLine_eq]; (first | lia | omega))
    have hext : Ext s4.heap ((s4.heap.push { cls := .type "slice", data := .fields #[vl, vu, vc] }).push { cls := .type "list", data := .seq (slicePick vs l u c) }) := fun b o e => Heap.get?_push_of_some _ (Heap.get?_push_of_some _ e)
    have hn2 : s4.heap.get? (s4.heap.push { cls := .type "slice", data := .fields #[vl, vu, vc] }).objs.size = none := Heap.get?_none_of_le (by rw [Heap.size_push]; exact Nat.le_succ _)
    have g5 := Grow.add (tk := s4.toks) st4.sub hext (Heap.get?_push_size _ rfl) hn2
    refine hQ _ _ _ _ ((((g1.trans g2).trans g3).trans g4).trans g5) (.list (PH.add_self ..) rfl rfl ?_ (rp.mono g5.le)) hd
    exact Nat.le_trans (slicePick_size_le ..) z
  · refine S.e _ _ _ _ _ _ _ _ _ _ hd a ok st1 r1 fun vi i fz2 s2 g2 ri hd => ?_
    exact item_sound hd (st1.grow g2) (vr.grow g2) ri fun v d rd hk => hQ _ _ _ _ (g1.trans g2) rd hk
end
end Mine
end
section
open PySem PySem.W PyProof.Rows PySem.Spec PySem.Calls
namespace Mine
structure GrowW (wr : List Addr) (fz : PH) (s : Shared) (fz' : PH) (s' : Shared) : Prop where
  same : ∃ h tk, s' = { s with heap := h, toks := tk }
  ext : ∀ b o, b ∉ wr → s.heap.get? b = some o → s'.heap.get? b = some o
  le : PH.le fz fz'
  sub : Inn fz' s'.heap
  new : ∀ a o, fz' a = some o → fz a = some o ∨ s.heap.get? a = none
/-- an iterator that hands on the items of ds, one a turn -/
structure Itr (prog : Program) (w : World) (A : Around) (target : Expr) (I : Addr) (wr : List Addr) (ds : List PyData) (J : Nat → PH → Heap → Prop) : Prop where
  frame : ∀ i fz h fz' h', J i fz h → Inn fz h → PH.le fz fz' → Inn fz' h' → (∀ b ∈ wr, ∀ o, h.get? b = some o → h'.get? b = some o) → J i fz' h'
  out : ∀ i fz h, J i fz h → ∀ b ∈ wr, ∃ o, h.get? b = some o
  self : ∀ i fz (s : Shared) (Q : Value → Shared → Prop) (E : Value → Shared → Prop), J i fz s.heap → Q (.ref I) s → wpAny (model prog w) A (pyIter (.ref I)) Q E s
  item : ∀ i d fz (s : Shared) (Q : Value → Shared → Prop) (E : Value → Shared → Prop), ds[i]? = some d → J i fz s.heap → Inn fz s.heap → (∀ b ∈ wr, fz b = none) →
    (∀ v fz' s', GrowW wr fz s fz' s' → J (i + 1) fz' s'.heap → Rd fz' v d → Q v s') →
    wpAny (model prog w) A (pyNext (.ref I)) (fun r s₁ => ∃ v, r = some v ∧ ∀ E', wpAny (model prog w) A (letOwnedTupleGo target (.ref I) v) (fun _ s₂ => Q v s₂) E' s₁) E s
  done : ∀ fz (s : Shared) (Q : Option Value → Shared → Prop) (E : Value → Shared → Prop), J ds.length fz s.heap → Inn fz s.heap → (∀ b ∈ wr, fz b = none) →
    (∀ s', GrowW wr fz s fz s' → Q none s') → wpAny (model prog w) A (pyNext (.ref I)) Q E s
theorem Itr.next {prog : Program} {w : World} {A : Around} {target : Expr} {I : Addr} {wr : List Addr} {ds : List PyData} {J : Nat → PH → Heap → Prop} (itr : Itr prog w A target I wr ds J) {K : Option Value → Shared → Prop} {QQ : Value → Shared → Prop} {E E1 : Value → Shared → Prop}
    {i : Nat} {d : PyData} {fz : PH} {s : Shared} (hK : ∀ v s₁, wpAny (model prog w) A (letOwnedTupleGo target (.ref I) v) (fun _ s₂ => QQ v s₂) E1 s₁ → K (some v) s₁)
    (hd : ds[i]? = some d) (hJ : J i fz s.heap) (hi : Inn fz s.heap) (hw : ∀ b ∈ wr, fz b = none) (hQ : ∀ v fz' s', GrowW wr fz s fz' s' → J (i + 1) fz' s'.heap → Rd fz' v d → QQ v s') :
    wpAny (model prog w) A (pyNext (.ref I)) K E s :=
  wpAny_mono (itr.item i d fz s QQ E hd hJ hi hw hQ) (fun r s₁ h => by obtain ⟨v, rfl, h⟩ := h; exact hK v s₁ (h E1)) fun _ _ x => x
theorem letGo_name {target : Expr} (h : isTupT target = false) (hl : ∀ es p, target ≠ .List es p) (it v : Value) : letOwnedTupleGo target it v = pure () := by
  unfold letOwnedTupleGo
  split
  · simp [isTupT] at h
  · exact absurd rfl (hl _ _)
  · rfl
theorem GrowW.keep {wr : List Addr} {fz : PH} {s : Shared} {h' : Heap} {tk : Nat} (hi : Inn fz s.heap) (hw : ∀ b ∈ wr, fz b = none) (k : ∀ b o, b ∉ wr → s.heap.get? b = some o → h'.get? b = some o) :
    GrowW wr fz s fz { s with heap := h', toks := tk } :=
  ⟨⟨h', tk, rfl⟩, k, PH.le.refl _, fun a o e => k a o (fun hm => by rw [hw a hm] at e; cases e) (hi a o e), fun _ _ e => .inl e⟩
section
variable {prog : Program} {w : World} {A : Around}
/-- of a walk of the library whose items are known -/
theorem Itr.ofWalks {target : Expr} {I : Addr} {fp : List Addr} {ds : List PyData} {P : Nat → Value → Prop} {St : Nat → Heap → Prop} {G : PH → Prop}
    (W : Walks prog w A I fp [I] ds.length P St) (ht : isTupT target = false) (hl : ∀ es p, target ≠ .List es p)
    (hfp : ∀ fz, G fz → (∀ b ∈ fp, b ≠ I → ∃ o, fz b = some o)) (hG : ∀ fz fz', G fz → PH.le fz fz' → G fz')
    (hI : ∀ i h, St i h → ∃ o, h.get? I = some o) (hP : ∀ i d v fz, ds[i]? = some d → P i v → G fz → Rd fz v d) :
    Itr prog w A target I [I] ds (fun i fz h => St i h ∧ G fz) where
  frame := fun i fz h fz' h' j hi le hi' k => by
    refine ⟨W.frame i h h' j.1 fun b hb o e => ?_, hG _ _ j.2 le⟩
    by_cases q : b = I
    · exact k b (by simp [q]) o e
    · obtain ⟨o', hf⟩ := hfp fz j.2 b hb q
      have e2 := hi _ _ hf
      rw [e] at e2; cases e2
      exact hi' _ _ (le _ _ hf)
  out := fun i fz h j b hb => by rw [List.mem_singleton.mp hb]; exact hI i h j.1
  self := fun i fz s Q E j h => W.self i s Q E j.1 h
  item := fun i d fz s Q E hd j hi hw hQ => by
    have hlt : i < ds.length := (List.getElem?_eq_some_iff.mp hd).1
    refine W.item i s _ E hlt j.1 fun v h' tk hp hst hk => ⟨v, rfl, fun E' => ?_⟩
    rw [letGo_name ht hl]
    exact wpAny_pure (hQ v fz _ (GrowW.keep hi hw hk) ⟨hst, j.2⟩ (hP i d v fz hd hp j.2))
  done := fun fz s Q E j hi hw hQ => W.done s Q E j.1 fun h' tk hk => hQ _ (GrowW.keep hi hw hk)
theorem Itr.list {target : Expr} {I l : Addr} {vs : Array Value} {ds : List PyData} (hh : A.handled = none) (ht : isTupT target = false) (hl : ∀ es p, target ≠ .List es p) (hne : l ≠ I) (hlen : vs.size = ds.length) :
    Itr prog w A target I [I] ds (fun i fz h => (h.IsListIter I l i ∧ h.IsList l vs) ∧ ((∃ o, fz l = some o) ∧ RdAll fz vs.toList ds)) := by
  have W := Walks.list (prog := prog) (w := w) hh I l hne vs
  rw [hlen] at W
  refine Itr.ofWalks W ht hl (fun fz g b hb hbI => ?_) (fun fz fz' g le => ⟨let ⟨o, e⟩ := g.1; ⟨o, le _ _ e⟩, g.2.mono le⟩) (fun i h st => let ⟨o, e, _⟩ := st.1; ⟨o, e⟩) fun i d v fz hd hp g => ?_
  · rcases List.mem_cons.mp hb with rfl | hb
    · exact absurd rfl hbI
    · rw [List.mem_singleton.mp hb]; exact g.1
  · obtain ⟨d', e, r⟩ := g.2.getV (k := i) (v := v) (by rw [Array.getElem?_toList]; exact hp)
    rw [hd] at e; cases e; exact r
theorem Itr.tuple {target : Expr} {I l : Addr} {vs : Array Value} {ds : List PyData} (hh : A.handled = none) (ht : isTupT target = false) (hl : ∀ es p, target ≠ .List es p) (hne : l ≠ I) (hlen : vs.size = ds.length) :
    Itr prog w A target I [I] ds (fun i fz h => (h.IsTupleIter I l i ∧ h.IsTuple l vs) ∧ ((∃ o, fz l = some o) ∧ RdAll fz vs.toList ds)) := by
  have W := Walks.tuple (prog := prog) (w := w) hh I l hne vs
  rw [hlen] at W
  refine Itr.ofWalks W ht hl (fun fz g b hb hbI => ?_) (fun fz fz' g le => ⟨let ⟨o, e⟩ := g.1; ⟨o, le _ _ e⟩, g.2.mono le⟩) (fun i h st => let ⟨o, e, _⟩ := st.1; ⟨o, e⟩) fun i d v fz hd hp g => ?_
  · rcases List.mem_cons.mp hb with rfl | hb
    · exact absurd rfl hbI
    · rw [List.mem_singleton.mp hb]; exact g.1
  · obtain ⟨d', e, r⟩ := g.2.getV (k := i) (v := v) (by rw [Array.getElem?_toList]; exact hp)
    rw [hd] at e; cases e; exact r
theorem Itr.range {target : Expr} {I : Addr} {a : Int} {ds : List PyData} (hh : A.handled = none) (ht : isTupT target = false) (hl : ∀ es p, target ≠ .List es p) (hdd : ∀ (i : Nat) (d : PyData), ds[i]? = some d → d = PyData.int (a + (i : Int))) :
    Itr prog w A target I [I] ds (fun i fz h => IsRangeIter h I (a + (i : Nat) * 1) ((ds.length : Int) - (i : Nat)) 1 ∧ True) := by
  have W := Walks.range (prog := prog) (w := w) hh I a 1 ds.length
  refine Itr.ofWalks W ht hl (fun fz g b hb hbI => absurd (List.mem_singleton.mp hb) hbI) (fun fz fz' g le => trivial) (fun i h st => ⟨_, st⟩) fun i d v fz he hp g => ?_
  obtain ⟨t, rfl⟩ := hp
  rw [hdd i d he, Int.mul_one]
  exact .int _ _
theorem Itr.enum {es : List Expr} {x1 : Nat} {tp : Pos} {e it l : Addr} {vs : Array Value} {ds : List PyData} (hh : A.handled = none) (h1 : e ≠ it) (h2 : l ≠ e) (h3 : l ≠ it) (hlen : vs.size = ds.length) :
    Itr prog w A (.Tuple es x1 tp) e [e, it] (ds.zipIdx.map fun p => .tuple [.int p.2, p.1])
      (fun i fz h => (∃ old, IsEnum h e it (i : Nat) old) ∧ h.IsListIter it l i ∧ h.IsList l vs ∧ (∃ o, fz l = some o) ∧ RdAll fz vs.toList ds) where
  frame := fun i fz h fz' h' j hi le hi' k => by
    obtain ⟨⟨old, he⟩, hit, hl, ⟨o, ho⟩, r⟩ := j
    refine ⟨⟨old, k e (by simp) _ he⟩, hit.at fun o e => k it (by simp) o e, hl.at fun o' e' => ?_, ⟨o, le _ _ ho⟩, r.mono le⟩
    have e2 := hi _ _ ho
    rw [e'] at e2; cases e2
    exact hi' _ _ (le _ _ ho)
  out := fun i fz h j b hb => by
    obtain ⟨⟨old, he⟩, ⟨o, ho, _⟩, _⟩ := j
    rcases List.mem_cons.mp hb with rfl | hb
    · exact ⟨_, he⟩
    · rw [List.mem_singleton.mp hb]; exact ⟨_, ho⟩
  self := fun i fz s Q E j h => by
    obtain ⟨⟨old, he⟩, _⟩ := j
    exact wpAny_pyIter_enum he h
  item := fun i d fz s Q E hd j hi hw hQ => by
    obtain ⟨⟨old, he⟩, hit, hl, ⟨o, ho⟩, r⟩ := j
    rw [List.getElem?_map] at hd
    obtain ⟨p, hp, rfl⟩ := Option.map_eq_some_iff.mp hd
    rw [List.getElem?_zipIdx] at hp
    obtain ⟨d, hd', rfl⟩ := Option.map_eq_some_iff.mp hp
    obtain ⟨v, hv, rv⟩ := r.get hd'
    rw [Array.getElem?_toList] at hv
    have hes : e < s.heap.objs.size := Heap.lt_size he
    have hls : l < s.heap.objs.size := Heap.lt_size (hi _ _ ho)
    have his : it < s.heap.objs.size := by obtain ⟨_, q, _⟩ := hit; exact Heap.lt_size q
    refine wpAny_pyNext_enum_item he hit hl hv h1 fun h₁ heo hit₁ ht₁ hz₁ hk₁ => ⟨_, rfl, fun E' => ?_⟩
    refine wpAny_letOwnedTupleGo_enum heo fun h₂ he₂ hs₂ => ?_
    have hs₂ : Heap.SameBut e h₁ h₂ := hs₂
    have hn : s.heap.get? s.heap.objs.size = none := Heap.get?_none_of_le (Nat.le_refl _)
    have hfn : fz s.heap.objs.size = none := PH.none_of hi hn
    have hle : PH.le fz (PH.add fz s.heap.objs.size { cls := .type "tuple", data := .seq #[.int i s.toks, v] }) := PH.le_add hfn
    have hk₂ : ∀ b o, b ∉ [e, it] → s.heap.get? b = some o → h₂.get? b = some o := fun b o hb q => by
      simp only [List.mem_cons, List.not_mem_nil, or_false, not_or] at hb
      exact (hs₂.2 b hb.1).trans (hk₁ b o hb.1 hb.2 q)
    have htu : h₂.get? s.heap.objs.size = some { cls := .type "tuple", data := .seq #[.int i s.toks, v] } := (hs₂.2 _ (Nat.ne_of_gt hes)).trans ht₁
    refine hQ _ (PH.add fz s.heap.objs.size { cls := .type "tuple", data := .seq #[.int i s.toks, v] }) _ ⟨⟨_, _, rfl⟩, hk₂, hle, fun a o q => ?_, fun a o q => ?_⟩ ⟨⟨v, he₂⟩, ?_, ?_, ⟨o, hle _ _ ho⟩, r.mono hle⟩ ?_
    · unfold PH.add at q
      split at q
      · rename_i ea; cases q; rw [ea]; exact htu
      · exact hk₂ a o (fun hm => by rw [hw a hm] at q; cases q) (hi a o q)
    · unfold PH.add at q
      split at q
      · rename_i ea; rw [ea]; exact .inr hn
      · exact .inl q
    · exact hit₁.at fun o q => (hs₂.2 it (Ne.symm h1)).trans q
    · refine hl.at fun o q => hk₂ l o ?_ q
      simp only [List.mem_cons, List.not_mem_nil, or_false, not_or]
      exact ⟨h2, h3⟩
    · refine .tuple (PH.add_self ..) rfl rfl (by show 2 ≤ 2 ^ 20; decide) (.cons ?_ (.cons (rv.mono hle) .nil))
      simp only [Nat.zero_add]
      exact .int _ _
  done := fun fz s Q E j hi hw hQ => by
    obtain ⟨⟨old, he⟩, hit, hl, ⟨o, ho⟩, r⟩ := j
    have e1 := r.length
    rw [Array.length_toList] at e1
    simp only [List.length_map, List.length_zipIdx] at he hit
    refine wpAny_pyNext_enum_end hh he hit hl (by rw [← hlen]; simp) fun h₁ he₁ => ?_
    refine hQ _ (GrowW.keep hi hw fun b o hb q => he₁ b o (fun h => hb (by simp [h])) q)
end
section
variable {prog : Program} {w : World} {hB : Heap} {n : Nat} {R : Rec} {kd : KD} {σ : Sg} {A : Around} {env : Env} {s : Shared} {fz : PH} {E : Value → Shared → Prop} {Q : Value → Shared → Prop}
noncomputable def IterPost (prog : Program) (w : World) (A : Around) (target : Expr) (fz : PH) (s : Shared) (k : List PyData → Prop) (Q : Value → Shared → Prop) : Prop :=
  ∀ I wr ds J fz' s', Itr prog w A target I wr ds J → J 0 fz' s'.heap → Grow fz s fz' s' → (∀ b ∈ wr, fz' b = none ∧ s.heap.get? b = none) → ds.length ≤ 2 ^ 20 → k ds → Q (.ref I) s'
theorem seq_iter {target : Expr} {v : Value} {d : PyData} {k : List PyData → Prop} (hh : A.handled = none) (ht : isTupT target = false) (hl : ∀ es p, target ≠ .List es p) (st : St hB fz s) (r : Rd fz v d) (hk : asSeq d k)
    {fz₀ : PH} {s₀ : Shared} (g₀ : Grow fz₀ s₀ fz s) (hQ : IterPost prog w A target fz₀ s₀ k Q) : wpAny (model prog w) A (pyIter v) Q E s := by
  have hn : s.heap.get? s.heap.objs.size = none := Heap.get?_none_of_le (Nat.le_refl _)
  unfold asSeq at hk
  split at hk
  · cases r with
    | @list a o vs m xs e c dd z r =>
      have hlen : vs.size = _ := r.length
      have hL : s.heap.IsList a vs := ⟨_, st.sub _ _ e, c, _, dd⟩
      have hne : a ≠ s.heap.objs.size := Nat.ne_of_lt (Heap.lt_size (st.sub _ _ e))
      refine wpAny_pyIter_list hL ?_
      have g := Grow.keep (tk := s.toks) (h := s.heap.push { cls := .type "list_iterator", data := .fields #[.ref a, .int 0 0] }) st.sub (fun b o e => Heap.get?_push_of_some _ e)
      exact hQ _ [s.heap.objs.size] _ _ fz _ (Itr.list hh ht hl hne hlen) ⟨⟨⟨_, Heap.get?_push_size _ rfl, rfl, rfl⟩, hL.push _⟩, ⟨_, e⟩, r⟩ (g₀.trans g)
        (fun b hb => by rw [List.mem_singleton.mp hb]; exact ⟨PH.none_of st.sub hn, g₀.ext.none hn⟩) (by (first | lia | omega)) hk
  · cases r with
    | @tuple a o vs m xs e c dd z r =>
      have hlen : vs.size = _ := r.length
      have hL : s.heap.IsTuple a vs := ⟨_, st.sub _ _ e, c, _, dd⟩
      have hne : a ≠ s.heap.objs.size := Nat.ne_of_lt (Heap.lt_size (st.sub _ _ e))
      refine wpAny_pyIter_tuple hL ?_
      have g := Grow.keep (tk := s.toks) (h := s.heap.push { cls := .type "tuple_iterator", data := .fields #[.ref a, .int 0 0] }) st.sub (fun b o e => Heap.get?_push_of_some _ e)
      exact hQ _ [s.heap.objs.size] _ _ fz _ (Itr.tuple hh ht hl hne hlen) ⟨⟨⟨_, Heap.get?_push_size _ rfl, rfl, rfl⟩, ⟨_, Heap.get?_push_of_some _ (st.sub _ _ e), c, _, dd⟩⟩, ⟨_, e⟩, r⟩ (g₀.trans g)
        (fun b hb => by rw [List.mem_singleton.mp hb]; exact ⟨PH.none_of st.sub hn, g₀.ext.none hn⟩) (by (first | lia | omega)) hk
  · exact hk.elim
theorem range_iter {target : Expr} {x y : Int} {r : Addr} {t u v : Tok} {k : List PyData → Prop} (hh : A.handled = none) (ht : isTupT target = false) (hl : ∀ es p, target ≠ .List es p) (st : Inn fz s.heap)
    (hr : IsRange s.heap r x y 1 t u v) (hx : 0 ≤ x) (hx' : x ≤ 2 ^ 20) (hy : -(2 ^ 20) ≤ y) (hy' : y ≤ 2 ^ 20) (hk : k ((List.range (y - x).toNat).map fun i : Nat => PyData.int (x + (i : Int))))
    {fz₀ : PH} {s₀ : Shared} (g₀ : Grow fz₀ s₀ fz s) (hQ : IterPost prog w A target fz₀ s₀ k Q) : wpAny (model prog w) A (pyIter (.ref r)) Q E s := by
  have hn : s.heap.get? s.heap.objs.size = none := Heap.get?_none_of_le (Nat.le_refl _)
  refine wpAny_pyIter_range hr (small_one (by (first | lia | omega)) (by (first | lia | omega)) (by (first | lia | omega)) (by (first | lia | omega))) ?_
  have e : Builtin.Range.rangeSize x y 1 = ((y - x).toNat : Int) := rangeSize_nat x y
  have g := Grow.keep (tk := s.toks) (h := s.heap.push { cls := .type "range_iterator", data := .fields #[rawInt x, rawInt (Builtin.Range.rangeSize x y 1), rawInt 1] }) st (fun b o e => Heap.get?_push_of_some _ e)
  refine hQ _ [s.heap.objs.size] ((List.range (y - x).toNat).map fun i : Nat => PyData.int (x + (i : Int))) _ fz _ (Itr.range (a := x) hh ht hl fun i d hd => ?_) ⟨?_, trivial⟩ (g₀.trans g)
    (fun b hb => by rw [List.mem_singleton.mp hb]; exact ⟨PH.none_of st hn, g₀.ext.none hn⟩) (by rw [List.length_map, List.length_range]; (first | lia | omega)) hk
  · rw [List.getElem?_map] at hd
    obtain ⟨j, hj, rfl⟩ := Option.map_eq_some_iff.mp hd
    obtain ⟨hl, hj⟩ := List.getElem?_eq_some_iff.mp hj
    rw [List.getElem_range] at hj
    rw [hj]
  · show (s.heap.push _).get? _ = _
    rw [List.length_map, List.length_range, e]
    simpa using Heap.get?_push_size _ rfl
theorem isFn_eq {f : Str} {x : String} (h : isFn kd f x = true) : f = Str.ofString x ∧ kd f = some .globalImplicit := by
  unfold isFn at h
  simpa using h
theorem iter_sound (B : Base prog w hB) (S : SoundR prog w hB n R) {iter target : Expr} {k : List PyData → Prop} (hk : wpIter R kd iter σ k) (ht : isTupT target = isEnumE kd iter) (hl : ∀ es p, target ≠ .List es p)
    (a : AOK (n + 1) A) (ok : EnvOK kd env) (st : St hB fz s) (r : Rel fz kd env σ s.heap) (hQ : IterPost prog w A target fz s k Q) :
    wpAny (model prog w) A (eval iter env) (fun xv s₁ => wpAny (model prog w) A (pyIter xv) Q E s₁) E s := by
  have plain : isTupT target = false → R.e kd iter σ (fun d => asSeq d k) → wpAny (model prog w) A (eval iter env) (fun xv s₁ => wpAny (model prog w) A (pyIter xv) Q E s₁) E s := fun ht h =>
    S.e _ _ _ _ _ _ _ _ _ _ h a ok st r fun v d fz' s' g rd hd => seq_iter a.hd ht hl (st.grow g) rd hd g hQ
  unfold wpIter at hk
  split at hk
  · rename_i f fp args pos
    rcases hk with ⟨hf, h⟩ | ⟨hf, h⟩ | ⟨h1, h2, h⟩
    · obtain ⟨rfl, hkd⟩ := isFn_eq hf
      have ht' : isTupT target = false := by
        rw [ht]
        show isFn kd (Str.ofString "range") "enumerate" = false
        unfold isFn
        rw [show (Str.ofString "range" == Str.ofString "enumerate") = false by decide +kernel]; rfl
      refine Call_Name rfl (name_glob ok hkd B.range st ?_)
      cases args with
      | nil => exact (h.2 : False).elim
      | cons e es =>
        refine PyProof.Rows.callWith_type (backTo_any h.1) (evalArgs_all h.1 rfl (args_sound S h a ok st r fun vs ds fz' s' g rds hd => ?_))
        split at hd
        · obtain ⟨v, rfl, q⟩ := rds.single
          cases q <;> first | exact hd.elim | skip
          rename_i m t
          refine call_range_1 ?_
          have g1 := Grow.keep (tk := s'.toks + 1 + 1) (h := s'.heap.push { cls := .type "range", data := .fields #[.int 0 s'.toks, .int m t, .int 1 (s'.toks + 1)] }) (st.grow g).sub (fun b o e => Heap.get?_push_of_some _ e)
          refine range_iter (x := 0) (y := m) a.hd ht' hl (g.trans g1).sub (Heap.get?_push_size _ rfl) (Int.le_refl _) (by decide) hd.1 hd.2.1 ?_ (g.trans g1) hQ
          simpa using hd.2.2
        · obtain ⟨v, u, rfl, q, q'⟩ := rds.two
          cases q <;> first | exact hd.elim | skip
          cases q' <;> first | exact hd.elim | skip
          rename_i x t y t'
          refine call_range_2 ?_
          have g1 := Grow.keep (tk := s'.toks + 1) (h := s'.heap.push { cls := .type "range", data := .fields #[.int x t, .int y t', .int 1 s'.toks] }) (st.grow g).sub (fun b o e => Heap.get?_push_of_some _ e)
          exact range_iter (x := x) (y := y) a.hd ht' hl (g.trans g1).sub (Heap.get?_push_size _ rfl) hd.1 hd.2.1 hd.2.2.1 hd.2.2.2.1 hd.2.2.2.2 (g.trans g1) hQ
        · exact hd.elim
    · obtain ⟨rfl, hkd⟩ := isFn_eq hf
      have ht' : isTupT target = true := by rw [ht]; exact hf
      refine Call_Name rfl (name_glob ok hkd B.enum st ?_)
      cases args with
      | nil => exact (h.2 : False).elim
      | cons e es =>
        refine PyProof.Rows.callWith_type (backTo_any h.1) (evalArgs_all h.1 rfl (args_sound S h a ok st r fun vs ds fz' s' g rds hd => ?_))
        split at hd
        · obtain ⟨v, rfl, q⟩ := rds.single
          rename_i d
          cases d <;> first | exact hd.elim | skip
          rename_i xs
          obtain ⟨l, items, rfl, o, ho, c, m, dd, z, rl⟩ : ∃ l items, v = .ref l ∧ ∃ o, fz' l = some o ∧ o.cls = .type "list" ∧ ∃ m, o.data = .seq items m ∧ items.size ≤ 2 ^ 20 ∧ RdAll fz' items.toList xs := by
            cases q with
            | list e c d z r => exact ⟨_, _, rfl, _, e, c, _, d, z, r⟩
          have st' := st.grow g
          have hL : s'.heap.IsList l items := ⟨_, st'.sub _ _ ho, c, _, dd⟩
          have hlt := Heap.lt_size (st'.sub _ _ ho)
          have hlen : items.size = _ := rl.length
          have hn : s'.heap.get? s'.heap.objs.size = none := Heap.get?_none_of_le (Nat.le_refl _)
          have hn1 : s'.heap.get? (s'.heap.objs.size + 1) = none := Heap.get?_none_of_le (Nat.le_succ _)
          refine call_enumerate_list hL fun h' he hi _ hk => wpAny_pyIter_enum he ?_
          have g1 := Grow.keep (tk := s'.toks) st'.sub hk
          have tgt : ∃ es x1 tp, target = .Tuple es x1 tp := by
            cases target <;> first | exact ⟨_, _, _, rfl⟩ | (simp [isTupT] at ht')
          obtain ⟨tes, x1, tp, rfl⟩ := tgt
          exact hQ _ [s'.heap.objs.size + 1, s'.heap.objs.size] _ _ fz' _ (Itr.enum (l := l) a.hd (Nat.succ_ne_self _) (Nat.ne_of_lt (Nat.lt_succ_of_lt hlt)) (Nat.ne_of_lt hlt) hlen)
            ⟨⟨.none, he⟩, hi, hL.at fun o e => hk _ o e, ⟨_, ho⟩, rl⟩ (g.trans g1)
            (fun b hb => by
              rcases List.mem_cons.mp hb with rfl | hb
              · exact ⟨PH.none_of st'.sub hn1, g.ext.none hn1⟩
              · rw [List.mem_singleton.mp hb]; exact ⟨PH.none_of st'.sub hn, g.ext.none hn⟩)
            (by rw [List.length_map, List.length_zipIdx]; (first | lia | omega)) hd
        · exact hd.elim
    · exact plain (by rw [ht]; exact h2) h
  · rename_i h0
    refine plain ?_ hk
    rw [ht]
    unfold isEnumE
    split
    · exact absurd rfl (h0 _ _ _ _)
    · rfl
end
end Mine
end
section
open PySem PySem.W PyProof.Rows PySem.Spec PySem.Calls
namespace Mine
/-- what a comprehension closes over -/
noncomputable def closeF (cells : List (Str × Addr)) : List (Str × NameKind) → List (Str × Addr) → List (Str × Addr)
  | [], acc => acc
  | (x, k) :: r, acc => if k == NameKind.free then (match cells.lookup x with
    | some c => closeF cells r ((x, c) :: acc)
    | none => closeF cells r acc) else closeF cells r acc
theorem close_forIn {env : Env} (f : Str × NameKind → List (Str × Addr) → Sem (ForInStep (List (Str × Addr))))
    (hf : ∀ x k cs, f (x, k) cs = if k == NameKind.free then (do let c ← cellOf env x; pure (.yield ((x, c) :: cs))) else pure (.yield cs)) :
    ∀ (names : List (Str × NameKind)) (acc : List (Str × Addr)), (∀ y ∈ names, y.2 = .free → ∃ c, env.cells.lookup y.1 = some c) → forIn names acc f = pure (closeF env.cells names acc)
  | [], acc, _ => by rw [List.forIn_nil]; rfl
  | (x, k) :: r, acc, h => by
    have ih := fun acc => close_forIn f hf r acc fun y hy => h y (List.mem_cons_of_mem _ hy)
    rw [List.forIn_cons, hf]
    unfold closeF
    by_cases q : (k == NameKind.free) = true
    · obtain ⟨c, hc⟩ := h (x, k) List.mem_cons_self (by simpa using q)
      dsimp only at hc
      rw [if_pos q, if_pos q, hc]
      unfold cellOf
      rw [hc]
      exact ih _
    · rw [if_neg q, if_neg q]
      exact ih _
theorem closureFor_eq {env : Env} {scope : Scope} (h : ∀ y ∈ scope.names, y.2 = .free → ∃ c, env.cells.lookup y.1 = some c) : closureFor scope env = pure (closeF env.cells scope.names []) := by
  unfold closureFor
  show (forIn scope.names [] _ >>= _) = _
  rw [close_forIn (env := env) _ (fun x k cs => by cases hk : k == NameKind.free <;> simp [hk]) _ _ h]
  rfl
theorem closeF_lookup {cells : List (Str × Addr)} : ∀ (names : List (Str × NameKind)) (acc : List (Str × Addr)) (x : Str) (c : Addr), cells.lookup x = some c → ((x, NameKind.free) ∈ names ∨ acc.lookup x = some c) → (closeF cells names acc).lookup x = some c
  | [], acc, x, c, hc, h => by
    rcases h with h | h
    · exact nomatch h
    · exact h
  | (y, k) :: r, acc, x, c, hc, h => by
    unfold closeF
    by_cases q : (k == NameKind.free) = true
    · rw [if_pos q]
      by_cases e : x = y
      · subst e
        rw [hc]
        exact closeF_lookup r _ x c hc (.inr (by simp))
      · have e' : (x == y) = false := by simpa using e
        have h' : (x, NameKind.free) ∈ r ∨ acc.lookup x = some c := by
          rcases h with h | h
          · rcases List.mem_cons.mp h with h | h
            · cases h; exact absurd rfl e
            · exact .inl h
          · exact .inr h
        cases hy : cells.lookup y with
        | none => exact closeF_lookup r _ x c hc h'
        | some c' => exact closeF_lookup r _ x c hc (h'.imp id fun h => by rw [List.lookup_cons, e']; exact h)
    · rw [if_neg q]
      refine closeF_lookup r _ x c hc (h.imp (fun h => ?_) id)
      rcases List.mem_cons.mp h with h | h
      · cases h; exact absurd rfl q
      · exact h
section
variable {kd : KD} {env : Env} {scope : Scope} {target : Expr} {ifs : List Expr} {σ : Sg} {C : Addr}
structure COk (kd : KD) (scope : Scope) (target : Expr) : Prop where
  kind : scope.kind = .function
  cell : ∀ y ∈ scope.names, y.2 ≠ .cell
  dbg : ∀ y ∈ scope.names, Mine.dbg y.1 = false
  loc : ∀ y ∈ scope.names, y.2 = .local → scope.names.lookup y.1 = some .local
  tg : ∀ y ∈ scope.names, y.2 = .local → y.1 = dot0 ∨ y.1 ∈ tgNames target
  free : ∀ y ∈ scope.names, y.2 = .free → kd y.1 = some .cell ∨ kd y.1 = some .free
  tgl : ∀ x ∈ tgNames target, scope.names.lookup x = some .local
theorem COk.of (h : compOk kd scope target ifs = true) : COk kd scope target := by
  unfold compOk at h
  simp only [Bool.and_eq_true, List.all_eq_true, beq_iff_eq, bne_iff_ne, ne_eq, Bool.or_eq_true, Bool.not_eq_true', List.contains_iff_mem] at h
  obtain ⟨⟨⟨h1, h2⟩, h3⟩, _⟩ := h
  refine ⟨h1, fun y hy => (h2 y hy).1.1.1, fun y hy => (h2 y hy).1.1.2, fun y hy e => ?_, fun y hy e => ?_, fun y hy e => ?_, h3⟩
  · rcases (h2 y hy).1.2 with q | q
    · exact absurd e q
    · exact q.1
  · rcases (h2 y hy).1.2 with q | q
    · exact absurd e q
    · exact q.2
  · rcases (h2 y hy).2 with (q | q) | q
    · exact absurd e q
    · exact .inl q
    · exact .inr q
theorem lookup_map_kind {f : Str → NameKind → NameKind} : ∀ {names : List (Str × NameKind)} {x : Str}, (names.map fun (n, k) => (n, f n k)).lookup x = (names.lookup x).map (f x)
  | [], _ => rfl
  | (n, k) :: r, x => by
    rw [List.map_cons, List.lookup_cons, List.lookup_cons]
    cases q : x == n with
    | true => rw [beq_iff_eq.mp q]; rfl
    | false => exact lookup_map_kind
theorem compKd_eq (x : Str) : compKd kd scope x = (scope.names.lookup x).map fun k => if (k == NameKind.free && kd x == some NameKind.cell) then NameKind.cell else k := by
  unfold compKd
  have e : (scope.names.map fun (n, k) => if (k == NameKind.free && kd n == some NameKind.cell) then (n, NameKind.cell) else (n, k)) = scope.names.map fun (n, k) => (n, if (k == NameKind.free && kd n == some NameKind.cell) then NameKind.cell else k) := by
    refine List.map_congr_left fun p _ => ?_
    obtain ⟨n, k⟩ := p
    dsimp only
    split <;> rfl
  rw [e]
  exact lookup_map_kind (f := fun n k => if (k == NameKind.free && kd n == some NameKind.cell) then NameKind.cell else k)
theorem comp_kindOf (ok : EnvOK kd env) {cl : List (Str × Addr)} (x : Str) : (compEnvC scope cl C env).kindOf x = compKd kd scope x := by
  show (scope.names.map fun (n, k) => if (k == NameKind.free && env.scope.kind == .function && env.kindOf n == some NameKind.cell) then (n, NameKind.cell) else (n, k)).lookup x = _
  unfold compKd
  congr 1
  refine List.map_congr_left fun p _ => ?_
  obtain ⟨n, k⟩ := p
  dsimp only
  rw [ok.fn, ok.kdof n]
  simp
theorem comp_envOK (ok : EnvOK kd env) (c : COk kd scope target) : EnvOK (compKd kd scope) (compEnvC scope (closeF env.cells scope.names []) C env) where
  kdof := fun x => comp_kindOf ok x
  fn := c.kind
  cells := fun x hx => by
    rw [compKd_eq] at hx
    have hf : scope.names.lookup x = some .free := by
      cases q : scope.names.lookup x with
      | none => rw [q] at hx; rcases hx with hx | hx <;> cases hx
      | some k =>
        rw [q] at hx
        have hk := mem_of_lookup q
        have := c.cell _ hk
        cases k <;> simp_all
    have hm := mem_of_lookup hf
    obtain ⟨a, ha⟩ := ok.cells x (c.free _ hm rfl)
    exact ⟨a, closeF_lookup _ _ _ _ ha (.inl hm)⟩
  glob := ok.glob
  bi := ok.bi
  dbg := fun x hx => by
    rw [compKd_eq] at hx
    cases q : scope.names.lookup x with
    | none => rw [q] at hx; exact absurd rfl hx
    | some k =>
      have := c.dbg _ (mem_of_lookup q)
      unfold Mine.dbg at this
      simpa using this
end
theorem Sg.get_set : ∀ (σ : Sg) (x : Str) (v : Slot) (y : Str), (σ.set x v).get y = if y = x then some v else σ.get y
  | [], x, v, y => by simp [Sg.set, Sg.get]
  | (z, u) :: r, x, v, y => by
    unfold Sg.set
    by_cases h : x = z
    · subst h
      rw [if_pos rfl]
      unfold Sg.get
      by_cases q : y = x
      · rw [if_pos q, if_pos q]
      · rw [if_neg q, if_neg q, if_neg q]
    · rw [if_neg h]
      unfold Sg.get
      by_cases q : y = z
      · subst q
        rw [if_pos rfl, if_neg (Ne.symm h), if_pos rfl]
      · rw [if_neg q, if_neg q]
        exact Sg.get_set r x v y
theorem SameBut.ext {a : Addr} {h h' : Heap} (s : Heap.SameBut a h h') : ∀ b o, b ≠ a → h.get? b = some o → h'.get? b = some o := fun b o hb e => (s.2 b hb).trans e
/-- a comprehension's loop: what stands between its turns -/
structure CSt (fz₂ : PH) (s₂ : Shared) (wr : List Addr) (C D : Addr) (fz : PH) (ys : List Value) (s : Shared) : Prop where
  same : ∃ h tk, s = { s₂ with heap := h, toks := tk }
  ext : ∀ b o, b ∉ wr → s₂.heap.get? b = some o → s.heap.get? b = some o
  le : PH.le fz₂ fz
  sub : Inn fz s.heap
  new : ∀ a o, fz a = some o → fz₂ a = some o ∨ s₂.heap.get? a = none
  wrs : ∀ b ∈ wr, fz b = none ∧ (∃ o, s.heap.get? b = some o) ∧ b ≠ C ∧ b ≠ D
  ns : ∃ m, s.heap.Ns C m
  Dl : PlainL s.heap D ys.toArray
  Cn : fz C = none ∧ s₂.heap.get? C = none
  Dn : fz D = none ∧ s₂.heap.get? D = none
  CD : C ≠ D
section
variable {fz₂ : PH} {s₂ : Shared} {wr : List Addr} {C D : Addr} {fz : PH} {ys : List Value} {s : Shared}
theorem CSt.grow {fz' : PH} {s' : Shared} (c : CSt fz₂ s₂ wr C D fz ys s) (g : Grow fz s fz' s') : CSt fz₂ s₂ wr C D fz' ys s' := by
  obtain ⟨h, tk, e⟩ := c.same
  obtain ⟨h', tk', e'⟩ := g.same
  have fresh : ∀ a o, s.heap.get? a = some o → fz a = none → fz' a = none := fun a o q hn => by
    cases r : fz' a with
    | none => rfl
    | some o' =>
      rcases g.new a o' r with x | x
      · rw [hn] at x; cases x
      · rw [q] at x; cases x
  obtain ⟨m, hm⟩ := c.ns
  obtain ⟨oD, _, hD, _⟩ := id c.Dl
  obtain ⟨oC, hC⟩ : ∃ o, s.heap.get? C = some o := let ⟨o, _, _, q, _⟩ := hm; ⟨o, q⟩
  refine ⟨⟨h', tk', by rw [e', e]⟩, fun b o hb q => g.ext _ _ (c.ext b o hb q), c.le.trans g.le, g.sub, fun a o q => ?_, fun b hb => ?_, ⟨m, hm.keeps g.ext⟩, c.Dl.keeps g.ext, ⟨fresh _ _ hC c.Cn.1, c.Cn.2⟩, ⟨fresh _ _ hD c.Dn.1, c.Dn.2⟩, c.CD⟩
  · rcases g.new a o q with x | x
    · exact c.new a o x
    · right
      cases r : s₂.heap.get? a with
      | none => rfl
      | some o' =>
        by_cases hw : a ∈ wr
        · obtain ⟨_, ⟨o'', q'⟩, _⟩ := c.wrs a hw
          rw [q'] at x; cases x
        · rw [c.ext a o' hw r] at x; cases x
  · obtain ⟨h1, ⟨o, h2⟩, h3⟩ := c.wrs b hb
    exact ⟨fresh _ _ h2 h1, ⟨o, g.ext _ _ h2⟩, h3⟩
theorem CSt.growW {fz' : PH} {s' : Shared} (c : CSt fz₂ s₂ wr C D fz ys s) (g : GrowW wr fz s fz' s') (hw : ∀ b ∈ wr, ∃ o, s'.heap.get? b = some o) : CSt fz₂ s₂ wr C D fz' ys s' := by
  obtain ⟨h, tk, e⟩ := c.same
  obtain ⟨h', tk', e'⟩ := g.same
  have fresh : ∀ a o, s.heap.get? a = some o → fz a = none → fz' a = none := fun a o q hn => by
    cases r : fz' a with
    | none => rfl
    | some o' =>
      rcases g.new a o' r with x | x
      · rw [hn] at x; cases x
      · rw [q] at x; cases x
  obtain ⟨m, hm⟩ := c.ns
  obtain ⟨oD, _, hD, _⟩ := id c.Dl
  have hCw : C ∉ wr := fun q => (c.wrs C q).2.2.1 rfl
  have hDw : D ∉ wr := fun q => (c.wrs D q).2.2.2 rfl
  obtain ⟨oC, hC⟩ : ∃ o, s.heap.get? C = some o := let ⟨o, _, _, q, _⟩ := hm; ⟨o, q⟩
  refine ⟨⟨h', tk', by rw [e', e]⟩, fun b o hb q => g.ext _ _ hb (c.ext b o hb q), c.le.trans g.le, g.sub, fun a o q => ?_, fun b hb => ?_, ⟨m, hm.at' fun o q => g.ext _ _ hCw q⟩, ⟨_, _, g.ext _ _ hDw (id c.Dl).choose_spec.choose_spec.1, (id c.Dl).choose_spec.choose_spec.2⟩, ⟨fresh _ _ hC c.Cn.1, c.Cn.2⟩, ⟨fresh _ _ hD c.Dn.1, c.Dn.2⟩, c.CD⟩
  · rcases g.new a o q with x | x
    · exact c.new a o x
    · right
      cases r : s₂.heap.get? a with
      | none => rfl
      | some o' =>
        by_cases hw : a ∈ wr
        · obtain ⟨_, ⟨o'', q'⟩, _⟩ := c.wrs a hw
          rw [q'] at x; cases x
        · rw [c.ext a o' hw r] at x; cases x
  · obtain ⟨h1, ⟨o, h2⟩, h3⟩ := c.wrs b hb
    exact ⟨fresh _ _ h2 h1, hw b hb, h3⟩
/-- a name of the block's own is stored -/
theorem CSt.setC {h' : Heap} {tk : Nat} {m' : Str → Option Value} (c : CSt fz₂ s₂ wr C D fz ys s) (hs : Heap.SameBut C s.heap h') (hn : h'.Ns C m') : CSt fz₂ s₂ wr C D fz ys { s with heap := h', toks := tk } := by
  obtain ⟨h, tk₀, e⟩ := c.same
  obtain ⟨oD, nD, hD, pD⟩ := id c.Dl
  have k' := SameBut.ext hs
  refine ⟨⟨h', tk, by rw [e]⟩, fun b o hb q => k' b o (fun r => by rw [r, c.Cn.2] at q; cases q) (c.ext b o hb q), c.le, fun a o q => k' a o (fun r => by rw [r, c.Cn.1] at q; cases q) (c.sub a o q), c.new, fun b hb => ?_, ⟨m', hn⟩, ⟨oD, nD, k' _ _ (Ne.symm c.CD) hD, pD⟩, c.Cn, c.Dn, c.CD⟩
  obtain ⟨h1, ⟨o, h2⟩, h3⟩ := c.wrs b hb
  exact ⟨h1, ⟨o, k' _ _ h3.1 h2⟩, h3⟩
theorem CSt.extB {h' : Heap} {tk : Nat} (c : CSt fz₂ s₂ wr C D fz ys s) (hs : Ext s.heap h') : CSt fz₂ s₂ wr C D fz ys { s with heap := h', toks := tk } := by
  have g : Grow fz s fz { s with heap := h', toks := tk } := Grow.keep c.sub hs
  exact c.grow g
end
end Mine
end
section
open PySem PySem.W PyProof.Rows PySem.Spec PySem.Calls
namespace Mine
theorem VarAt.isVarG {h : Heap} {env : Env} {x : Str} {v : Value} {kd : KD} (ok : EnvOK kd env) (a : VarAt h env x v) (k : kd x = some .cell ∨ kd x = some .free) : ∃ c, env.cells.lookup x = some c ∧ h.IsCell c (some v) := by
  rcases a with ⟨q, _⟩ | ⟨_, r⟩
  · rw [ok.kdof] at q; rw [q] at k; rcases k with k | k <;> cases k
  · exact r
section
variable {fz : PH} {kd : KD} {env : Env} {scope : Scope} {target : Expr} {ifs : List Expr} {σ σ' : Sg} {C : Addr} {h : Heap} {m' : Str → Option Value}
theorem comp_rel (c : COk kd scope target) (ok : EnvOK kd env) (r : Rel fz kd env σ h) (h0 : σ.get dot0 = none) (hn : h.Ns C m')
    (htg : ∀ x ∈ tgNames target, ∃ v d, m' x = some v ∧ σ'.get x = some (.sh d) ∧ Rd fz v d) (hoth : ∀ y, y ∉ tgNames target → σ'.get y = σ.get y) :
    Rel fz (compKd kd scope) (compEnvC scope (closeF env.cells scope.names []) C env) σ' h := by
  -- the three kinds that a name of the block may have
  have split : ∀ y, isVar (compKd kd scope) y = true → (scope.names.lookup y = some .local) ∨ (scope.names.lookup y = some .free ∧ (kd y = some .cell ∨ kd y = some .free)) := by
    intro y hy
    unfold isVar at hy
    rw [compKd_eq] at hy
    cases q : scope.names.lookup y with
    | none => rw [q] at hy; cases hy
    | some k =>
      have hm := mem_of_lookup q
      have hc := c.cell _ hm
      cases k with
      | «local» => exact .inl rfl
      | cell => exact absurd rfl hc
      | free => exact .inr ⟨rfl, c.free _ hm rfl⟩
      | globalExplicit => rw [q] at hy; simp at hy
      | globalImplicit => rw [q] at hy; simp at hy
  have notTg : ∀ y, scope.names.lookup y = some .free → y ∉ tgNames target := fun y q hm => by
    have := c.tgl y hm
    rw [q] at this; cases this
  have free : ∀ y v, scope.names.lookup y = some .free → (kd y = some .cell ∨ kd y = some .free) → VarAt h env y v → VarAt h (compEnvC scope (closeF env.cells scope.names []) C env) y v := by
    intro y v q k a
    obtain ⟨cc, h1, h2⟩ := a.isVarG ok k
    refine .inr ⟨?_, cc, closeF_lookup _ _ _ _ h1 (.inl (mem_of_lookup q)), h2⟩
    rw [comp_kindOf ok, compKd_eq, q]
    by_cases hb : (kd y == some NameKind.cell) = true
    · left; simp [hb]
    · right; simp [hb]
  have isv : ∀ y, (kd y = some .cell ∨ kd y = some .free) → isVar kd y = true := by
    intro y k; unfold isVar; rcases k with k | k <;> rw [k]
  refine ⟨fun y d hy hg => ?_, fun y ds hy hg => ?_⟩
  · rcases split y hy with q | ⟨q, k⟩
    · rcases c.tg _ (mem_of_lookup q) rfl with e | e
      · by_cases ht : y ∈ tgNames target
        · obtain ⟨v, d', h1, h2, h3⟩ := htg y ht
          rw [hg] at h2; cases h2
          exact ⟨v, .inl ⟨by rw [comp_kindOf ok, compKd_eq, q]; rfl, m', hn, h1⟩, h3⟩
        · dsimp only at e
          rw [hoth y ht, e, h0] at hg; cases hg
      · obtain ⟨v, d', h1, h2, h3⟩ := htg y e
        rw [hg] at h2; cases h2
        exact ⟨v, .inl ⟨by rw [comp_kindOf ok, compKd_eq, q]; rfl, m', hn, h1⟩, h3⟩
    · rw [hoth y (notTg y q)] at hg
      obtain ⟨v, a, rd⟩ := r.sh y d (isv y k) hg
      exact ⟨v, free y v q k a, rd⟩
  · rcases split y hy with q | ⟨q, k⟩
    · rcases c.tg _ (mem_of_lookup q) rfl with e | e
      · by_cases ht : y ∈ tgNames target
        · obtain ⟨v, d', h1, h2, h3⟩ := htg y ht
          rw [hg] at h2; cases h2
        · dsimp only at e
          rw [hoth y ht, e, h0] at hg; cases hg
      · obtain ⟨v, d', h1, h2, h3⟩ := htg y e
        rw [hg] at h2; cases h2
    · rw [hoth y (notTg y q)] at hg
      obtain ⟨a, vs, va, p, z, rd⟩ := r.own y ds (isv y k) hg
      exact ⟨a, vs, free y _ q k va, p, z, rd⟩
end
section
variable {prog : Program} {w : World} {A : Around} {E : Value → Shared → Prop} {R : Result → Shared → Prop} {s : Shared}
theorem compLoop_any {elt target iter : Expr} {ifs : List Expr} {scope : Scope} {pos : Pos} {it acc : Value} {env : Env} (I : Nat → Shared → Prop)
    (turn : ∀ n s, I n s → wpAny (model prog w) A (pyNext it) (fun r s₁ => match r with
      | none => R (.ok .next) s₁
      | some v => wpAny (model prog w) A (letOwnedTupleGo target it v) (fun _ s₁' => wpAny (model prog w) A (assign target env v) (fun _ s₂ =>
          wpAny (model prog w) A (forIn ifs true fun c r => if r = true then do let ok ← isTrue c env (eval c env); pure (ForInStep.yield ok) else pure (ForInStep.yield r)) (fun ok s₃ =>
            if ok = true then wpAny (model prog w) A (eval elt env) (fun x s₄ =>
              wpAny (model prog w) A (call (.builtin "list.append") [acc, x]) (fun _ s₅ => ∃ m, m < n ∧ I m s₅) (notedBy (model prog w) A env fun e s' => R (.error e) s') s₄) (notedBy (model prog w) A env fun e s' => R (.error e) s') s₃
            else ∃ m, m < n ∧ I m s₃) (notedBy (model prog w) A env fun e s' => R (.error e) s') s₂) (notedBy (model prog w) A env fun e s' => R (.error e) s') s₁') (notedBy (model prog w) A env fun e s' => R (.error e) s') s₁) (notedBy (model prog w) A env fun e s' => R (.error e) s') s)
    (n : Nat) (h : I n s) : codeAny (model prog w) A (.compLoop (.ListComp elt [⟨target, iter, ifs, 0⟩] scope pos) 0 it acc env) R s := by
  refine codeAny_loop rfl I (fun n s hI => ?_) n h
  show wpAny _ A ((compTurn (.ListComp elt [⟨target, iter, ifs, 0⟩] scope pos) 0 it acc env).onRaise (fun x => do noteFrame x env; theTreesLotGoes x)) _ _ s
  refine wpAny_noted ?_
  rw [compTurn_list]
  refine wpAny_bind (wpAny_standAt (wpAny_bind (wpAny_mono (turn n s hI) (fun r s₁ h₁ => ?_) fun _ _ x => x)))
  cases r with
  | none => exact wpAny_pure h₁
  | some v =>
    refine wpAny_bind (wpAny_mono h₁ (fun _ s₁' h₁' => ?_) fun _ _ x => x)
    refine wpAny_bind (wpAny_mono h₁' (fun _ s₂ h₂ => wpAny_bind (wpAny_mono h₂ (fun ok s₃ h₃ => ?_) fun _ _ x => x)) fun _ _ x => x)
    cases ok with
    | false => exact wpAny_pure ⟨rfl, h₃⟩
    | true => exact wpAny_bind (wpAny_bind (wpAny_mono h₃ (fun x s₄ h₄ => wpAny_bind (wpAny_mono h₄ (fun _ s₅ h₅ => wpAny_pure (wpAny_pure ⟨rfl, h₅⟩)) fun _ _ x => x)) fun _ _ x => x))
variable {fz₂ : PH} {s₂ : Shared} {wr : List Addr} {C D : Addr} {fz : PH} {ys : List Value} {kd : KD} {env : Env} {scope : Scope} {target : Expr} {ifs : List Expr} {σ : Sg}
theorem tgNames_pair {x y : Str} {px py tp : Pos} {k : Nat} : tgNames (.Tuple [.Name x px, .Name y py] k tp) = [x, y] := rfl
theorem bindC_sound {v : Value} {d : PyData} {k : Sg → Prop} {Q : Unit → Shared → Prop} {cl : List (Str × Addr)} (hb : bindT target d σ k) (hc : compOk kd scope target ifs = true) (ok : EnvOK kd env) (hh : A.handled = none) (hv : Rd fz v d) (c : CSt fz₂ s₂ wr C D fz ys s)
    (hQ : ∀ σ' h' tk m', k σ' → CSt fz₂ s₂ wr C D fz ys { s with heap := h', toks := tk } → h'.Ns C m' → (∀ b o, b ≠ C → s.heap.get? b = some o → h'.get? b = some o) →
      (∀ x ∈ tgNames target, ∃ v d, m' x = some v ∧ σ'.get x = some (.sh d) ∧ Rd fz v d) → (∀ y, y ∉ tgNames target → σ'.get y = σ.get y) → Q () { s with heap := h', toks := tk }) :
    wpAny (model prog w) A (assign target (compEnvC scope cl C env) v) Q E s := by
  have cok := COk.of hc
  have hp : ((compEnvC scope cl C env).scope.kind == .class || ((compEnvC scope cl C env).scope.kind == .module && (compEnvC scope cl C env).locals != (compEnvC scope cl C env).globals)) = false := by
    show (scope.kind == .class || (scope.kind == .module && _)) = false
    rw [cok.kind]; rfl
  have hloc : ∀ x ∈ tgNames target, (compEnvC scope cl C env).kindOf x = some .local := fun x hx => lookup_relabel_local (cok.tgl x hx)
  obtain ⟨m, hm⟩ := c.ns
  unfold bindT at hb
  split at hb
  · rename_i x px
    refine wpAny_assign_Name (wpAny_storeName_local (hloc x (by simp [tgNames])) hm (fun h' hn hs => ?_) hp)
    refine hQ _ h' _ _ hb (c.setC hs hn) hn (SameBut.ext hs) (fun z hz => ?_) fun z hz => ?_
    · have e : z = x := by simpa [tgNames] using hz
      subst e
      exact ⟨v, d, by simp, by rw [Sg.get_set, if_pos rfl], hv⟩
    · have e : z ≠ x := by simpa [tgNames] using hz
      rw [Sg.get_set, if_neg e]
  · rename_i x px y py k tp
    cases d <;> first | exact hb.elim | skip
    rename_i ds
    dsimp only [asTup] at hb
    split at hb
    · rename_i a b
      have hxy : x ≠ y := by
        unfold compOk at hc
        simp only [Bool.and_eq_true, bne_iff_ne, ne_eq] at hc
        exact hc.2.2
      cases hv with
      | @tuple t o items n xs e cc dd z r =>
        obtain ⟨v1, v2, e2, r1, r2⟩ := r.two
        have ht : IsTup s.heap t items := ⟨_, c.sub _ _ e, cc, _, dd⟩
        have hsz : items.size = 2 := by rw [← Array.length_toList, e2]; rfl
        refine assign_Tuple_tuple hh ht (by rw [hsz]; rfl) rfl fun h₁ he => ?_
        have hE : Ext s.heap h₁ := fun b o q => he b o (fun r => by rw [r] at q; exact absurd (Heap.lt_size q) (Nat.lt_irrefl _)) q
        have c1 := c.extB (tk := s.toks) hE
        rw [e2]
        refine assignInOrder_cons (wpAny_assign_Name (wpAny_storeName_local (hloc x (by simp [tgNames])) (hm.keeps hE) (fun h₂ hn₂ hs₂ => ?_) hp))
        refine assignInOrder_cons (wpAny_assign_Name (wpAny_storeName_local (hloc y (by simp [tgNames])) hn₂ (fun h₃ hn₃ hs₃ => assignInOrder_nil ?_) hp))
        have c2 := c1.setC (tk := s.toks + 1) hs₂ hn₂
        have c3 := c2.setC (tk := s.toks + 1 + 1) hs₃ hn₃
        refine hQ _ h₃ _ _ hb c3 hn₃ (fun b o q h => SameBut.ext hs₃ _ _ q (SameBut.ext hs₂ _ _ q (hE _ _ h))) (fun z hz => ?_) fun z hz => ?_
        · rw [tgNames_pair] at hz
          rcases List.mem_cons.mp hz with rfl | hz
          · exact ⟨v1, a, by simp [hxy], by rw [Sg.get_set, if_neg hxy, Sg.get_set, if_pos rfl], r1⟩
          · rw [List.mem_singleton.mp hz]
            exact ⟨v2, b, by simp, by rw [Sg.get_set, if_pos rfl], r2⟩
        · rw [tgNames_pair] at hz
          simp only [List.mem_cons, List.not_mem_nil, or_false, not_or] at hz
          rw [Sg.get_set, if_neg hz.2, Sg.get_set, if_neg hz.1]
    · exact hb.elim
  · exact hb.elim
end
end Mine
end
section
open PySem PySem.W PyProof.Rows PySem.Spec PySem.Calls
namespace Mine
section
variable {prog : Program} {w : World} {hB : Heap} {n : Nat} {R : Rec} {kd : KD} {σ : Sg} {A : Around} {env : Env} {s : Shared} {fz : PH} {E : Value → Shared → Prop}
theorem Rel.ext {fz fz' : PH} {h h' : Heap} {kd : KD} {env : Env} {σ : Sg} (x : Rel fz kd env σ h) (le : PH.le fz fz') (e : Ext h h') : Rel fz' kd env σ h' := by
  refine ⟨fun y d h1 h2 => ?_, fun y ds h1 h2 => ?_⟩
  · obtain ⟨v, a, r⟩ := x.sh y d h1 h2
    exact ⟨v, a.ext e, r.mono le⟩
  · obtain ⟨a, vs, va, p, z, r⟩ := x.own y ds h1 h2
    exact ⟨a, vs, va.ext e, p.keeps e, z, r.mono le⟩
theorem tests_sound (S : SoundR prog w hB n R) {ifs : List Expr} {k : Bool → Prop} {Q : Bool → Shared → Prop} (hk : wpTests R kd ifs σ k) (a : AOK (n + 1) A) (ok : EnvOK kd env) (st : St hB fz s) (r : Rel fz kd env σ s.heap)
    (hQ : ∀ b fz' s', Grow fz s fz' s' → k b → Q b s') :
    wpAny (model prog w) A (forIn ifs true fun c r => if r = true then do let ok ← isTrue c env (eval c env); pure (ForInStep.yield ok) else pure (ForInStep.yield r)) Q E s := by
  unfold wpTests at hk
  split at hk
  · exact wpAny_tests_nil (hQ _ _ _ (Grow.refl st.sub) hk)
  · exact wpAny_tests_one (S.t _ _ _ _ _ _ _ _ _ _ hk a ok st r hQ)
  · exact hk.elim
/-- what a comprehension has made when it ends -/
structure CompDone (fz : PH) (s : Shared) (C D : Addr) (ys : List Value) (out : List PyData) (fz' : PH) (s' : Shared) : Prop where
  same : ∃ h tk, s' = { s with heap := h, toks := tk }
  ext : Ext s.heap s'.heap
  le : PH.le fz fz'
  sub : Inn fz' s'.heap
  new : ∀ a o, fz' a = some o → fz a = some o ∨ s.heap.get? a = none
  ns : ∃ m, s'.heap.Ns C m
  Dl : PlainL s'.heap D ys.toArray
  Cn : fz' C = none ∧ s.heap.get? C = none
  Dn : fz' D = none ∧ s.heap.get? D = none
  CD : C ≠ D
  rd : RdAll fz' ys out
  sz : ys.length ≤ 2 ^ 20
theorem fold_plain {iter : Expr} {env : Env} (hpl : plainIter iter = true) (x : Value) : foldedSetIterable iter env x = pure x := by
  cases iter with
  | Set es k p => cases hpl
  | _ => rfl
theorem comp_core (B : Base prog w hB) (S : SoundR prog w hB n R) {elt target iter : Expr} {ifs : List Expr} {scope : Scope} {pos cpos : Pos} {k : PyData → Prop} (hk : wpComp R kd elt target iter ifs scope σ k)
    (a : AOK (n + 1) A) (ok : EnvOK kd env) (st : St hB fz s) (r : Rel fz kd env σ s.heap) {use : Option (Value → Sem Unit)} {Q : Value → Shared → Prop}
    (hRR : ∀ C D ys out fz' s', CompDone fz s C D ys out fz' s' → k (.list out) → compPost (model prog w) A E use Q (.ref D) C (.ok .next) s') :
    wpAny (model prog w) A (comprehension (.ListComp elt [⟨target, iter, ifs, 0⟩] scope cpos) scope env pos (newList []) false (eval iter env) use) Q E s := by
  obtain ⟨hc, h0, hpl, hte, hk⟩ := hk
  have cok := COk.of hc
  have hfree : ∀ y ∈ scope.names, y.2 = .free → ∃ c, env.cells.lookup y.1 = some c := fun y hy e => ok.cells _ (cok.free y hy e)
  have hlist : ∀ es p, target ≠ .List es p := by
    intro es p e
    subst e
    simp [compOk] at hc
  have hfold := fold_plain (env := env) hpl
  refine wpAny_comprehension_free (g := ⟨target, iter, ifs, 0⟩) (gs := []) rfl hfold (closureFor_eq hfree) cok.kind cok.loc ?_
  refine iter_sound B S hk hte hlist a ok st r fun I wr ds J fz₂ s₂ itr hJ g₂ hwr hsz hk => ?_
  obtain ⟨p, gg, hd, hk⟩ := hk
  -- the list and the block's names
  refine wpAny_newObj_type (wpAny_newFunctionEnv cok.cell (by intro y hy; simp at hy) (fun h₁ hns₁ hsb₁ => ?_) cok.kind)
  dsimp only at hns₁ hsb₁ ⊢
  generalize hH2 : s₂.heap.push { cls := .type "list", dict := none, data := .seq ([] : List Value).toArray } = H2 at hns₁ hsb₁ ⊢
  have hC : H2.objs.size = s₂.heap.objs.size + 1 := by rw [← hH2, Heap.size_push]
  have hDC : s₂.heap.objs.size ≠ H2.objs.size := by rw [hC]; exact Nat.ne_of_lt (Nat.lt_succ_self _)
  have st₂ := st.grow g₂
  have old : ∀ b o, s₂.heap.get? b = some o → h₁.get? b = some o := fun b o e => by
    have hb := Heap.lt_size e
    exact hsb₁.extBut b o (by rw [hC]; exact Nat.ne_of_lt (Nat.lt_succ_of_lt hb)) (Heap.get?_push_of_some _ (hH2 ▸ Heap.get?_push_of_some _ e))
  have fresh : ∀ b, s₂.heap.objs.size ≤ b → s₂.heap.get? b = none := fun b hb => Heap.get?_none_of_le hb
  have hD₂ := fresh _ (Nat.le_refl _)
  have hC₂ := fresh H2.objs.size (by rw [hC]; exact Nat.le_succ _)
  have hacc : h₁.get? s₂.heap.objs.size = some { cls := .type "list", data := .seq ([] : List Value).toArray } := hsb₁.extBut _ _ hDC (Heap.get?_push_of_some _ (hH2 ▸ Heap.get?_push_size _ rfl))
  have itr₁ := itr.out 0 fz₂ s₂.heap hJ
  have c₀ : CSt fz₂ s₂ wr H2.objs.size s₂.heap.objs.size fz₂ [] { s₂ with heap := h₁, toks := s₂.toks + ([] : List (Str × Value)).length } := by
    refine ⟨⟨_, _, rfl⟩, fun b o _ e => old b o e, PH.le.refl _, fun b o e => old b o (st₂.sub _ _ e), fun _ _ e => .inl e, fun b hb => ?_, ⟨_, hns₁⟩, ⟨_, 0, hacc, rfl, rfl, rfl⟩, ⟨PH.none_of st₂.sub hC₂, hC₂⟩, ⟨PH.none_of st₂.sub hD₂, hD₂⟩, Ne.symm hDC⟩
    obtain ⟨o, ho⟩ := itr₁ b hb
    exact ⟨(hwr b hb).1, ⟨o, old _ _ ho⟩, (fun e => by rw [e, hC₂] at ho; cases ho), (fun e => by rw [e, hD₂] at ho; cases ho)⟩
  have hJ₁ : J 0 fz₂ h₁ := itr.frame _ _ _ _ _ hJ st₂.sub (PH.le.refl _) c₀.sub fun b _ o e => old b o e
  have loop : ∀ s₃ : Shared, s₃ = { s₂ with heap := h₁, toks := s₂.toks + ([] : List (Str × Value)).length } →
      codeAny (model prog w) A (.compLoop (.ListComp elt [⟨target, iter, ifs, 0⟩] scope cpos) 0 (.ref I) (.ref s₂.heap.objs.size) (compEnvC scope (closeF env.cells scope.names []) H2.objs.size env))
        (compPost (model prog w) A E use Q (.ref s₂.heap.objs.size) H2.objs.size) s₃ := by
    rintro s₃ rfl
    refine compLoop_any (fun m s' => ∃ i fz' ys, i ≤ ds.length ∧ m = ds.length + 1 - i ∧ CSt fz₂ s₂ wr H2.objs.size s₂.heap.objs.size fz' ys s' ∧ J i fz' s'.heap ∧ RdAll fz' ys (((ds.take i).filter p).map gg)) ?_ (ds.length + 1)
      ⟨0, fz₂, [], Nat.zero_le _, rfl, c₀, hJ₁, by simpa using RdAll.nil⟩
    rintro m s' ⟨i, fz', ys, hi, rfl, c, hJ', rds⟩
    have hlenys : ys.length ≤ 2 ^ 20 := by
      rw [rds.length, List.length_map]
      exact Nat.le_trans (List.length_filter_le _ _) (by rw [List.length_take]; (first | lia | omega))
    by_cases hlt : i < ds.length
    · have hdi : ds[i]? = some (ds[i]'hlt) := List.getElem?_eq_getElem hlt
      refine itr.next (fun v s₁ h => h) hdi hJ' c.sub (fun b hb => (c.wrs b hb).1) fun v fz'' s'' gw hJ'' rv => ?_
      have hwr'' : ∀ b ∈ wr, ∃ o, s''.heap.get? b = some o := itr.out _ _ _ hJ''
      have c1 := c.growW gw hwr''
      refine bindC_sound (hd _ (List.getElem_mem hlt)) hc ok a.hd rv c1 fun σ' h' tk m' hk' c2 hn' hkeep htg hoth => ?_
      obtain ⟨hkt, hke⟩ := hk'
      have hJ2 : J (i + 1) fz'' h' := itr.frame _ _ _ _ _ hJ'' c1.sub (PH.le.refl _) c2.sub fun b hb o e => hkeep b o (c1.wrs b hb).2.2.1 e
      have ext2 : Ext s.heap h' := fun b o e => c2.ext b o (fun hb => by rw [(hwr b hb).2] at e; cases e) (g₂.ext _ _ e)
      have rel2 := comp_rel (fz := fz'') (σ' := σ') cok ok (r.ext (g₂.le.trans c2.le) ext2) h0 hn' htg hoth
      have st2 : St hB fz'' { s'' with heap := h', toks := tk } := ⟨c2.sub, fun b o e => c2.le _ _ (st₂.base _ _ e)⟩
      have okc := comp_envOK (C := H2.objs.size) ok cok
      refine tests_sound S hkt a okc st2 rel2 fun b fz3 s3 g3 hb => ?_
      subst hb
      have c3 := c2.grow g3
      have hJ3 : J (i + 1) fz3 s3.heap := itr.frame _ _ _ _ _ hJ2 c2.sub g3.le c3.sub fun b _ o e => g3.ext b o e
      have htake : ds.take (i + 1) = ds.take i ++ [ds[i]'hlt] := by rw [List.take_add_one, hdi]; rfl
      by_cases hp : p (ds[i]'hlt) = true
      · rw [if_pos hp]
        refine S.e _ _ _ _ _ _ _ _ _ _ (hke hp) a okc (st2.grow g3) (rel2.grow g3) fun y d fz4 s4 g4 ry hy => ?_
        subst hy
        have c4 := c3.grow g4
        have hJ4 : J (i + 1) fz4 s4.heap := itr.frame _ _ _ _ _ hJ3 c3.sub g4.le c4.sub fun b _ o e => g4.ext b o e
        refine list_append_plainL (c4.Dl) (fun h5 hpl5 hs5 => ?_) (by rw [sizeLine_eq, List.size_toArray]; (first | lia | omega))
        have k5 := SameBut.ext hs5
        have c5 : CSt fz₂ s₂ wr H2.objs.size s₂.heap.objs.size fz4 (ys ++ [y]) { s4 with heap := h5 } := by
          obtain ⟨h, t, e⟩ := c4.same
          obtain ⟨m5, hm5⟩ := c4.ns
          refine ⟨⟨h5, t, by rw [e]⟩, fun b o hb q => k5 b o (fun x => by rw [x, c4.Dn.2] at q; cases q) (c4.ext b o hb q), c4.le, fun b o q => k5 b o (fun x => by rw [x, c4.Dn.1] at q; cases q) (c4.sub b o q), c4.new, fun b hb => ?_, ⟨m5, hm5.at' fun o q => k5 _ _ c4.CD q⟩, ?_, c4.Cn, c4.Dn, c4.CD⟩
          · obtain ⟨q1, ⟨o, q2⟩, q3⟩ := c4.wrs b hb
            exact ⟨q1, ⟨o, k5 _ _ q3.2 q2⟩, q3⟩
          · have : ys.toArray.push y = (ys ++ [y]).toArray := by simp
            rw [← this]; exact hpl5
        refine ⟨ds.length + 1 - (i + 1), by (first | lia | omega), i + 1, fz4, ys ++ [y], hlt, rfl, c5, ?_, ?_⟩
        · exact itr.frame _ _ _ _ _ hJ4 c4.sub (PH.le.refl _) c5.sub fun b hb o e => k5 b o (c4.wrs b hb).2.2.2 e
        · rw [htake, List.filter_append, List.map_append]
          refine (((rds.mono gw.le).mono g3.le).mono g4.le).append ?_
          simp only [List.filter_cons, hp, if_true, List.filter_nil, List.map_cons, List.map_nil]
          exact .cons ry .nil
      · rw [if_neg hp]
        refine ⟨ds.length + 1 - (i + 1), by (first | lia | omega), i + 1, fz3, ys, hlt, rfl, c3, hJ3, ?_⟩
        rw [htake, List.filter_append, List.map_append]
        have hp' : p (ds[i]'hlt) = false := by simpa using hp
        simp only [List.filter_cons, hp', Bool.false_eq_true, if_false, List.filter_nil, List.map_nil, List.append_nil]
        exact (rds.mono gw.le).mono g3.le
    · obtain rfl : i = ds.length := Nat.le_antisymm hi (Nat.not_lt.mp hlt)
      refine itr.done fz' s' _ _ hJ' c.sub (fun b hb => (c.wrs b hb).1) fun s'' gw => ?_
      -- the iterator may be let go: nothing of it is asked behind the loop
      rw [List.take_length] at rds
      have hCw : H2.objs.size ∉ wr := fun q => (c.wrs _ q).2.2.1 rfl
      have hDw : s₂.heap.objs.size ∉ wr := fun q => (c.wrs _ q).2.2.2 rfl
      obtain ⟨hh, tt, e1⟩ := c.same
      obtain ⟨hh', tt', e2⟩ := gw.same
      obtain ⟨h2', t2', e3⟩ := g₂.same
      obtain ⟨mC, hmC⟩ := c.ns
      obtain ⟨oD, nD, hD, pD⟩ := id c.Dl
      refine hRR _ _ ys _ fz' s'' ⟨⟨hh', tt', by rw [e2, e1, e3]⟩, fun b o q => gw.ext b o (fun hb => by rw [(hwr b hb).2] at q; cases q) (c.ext b o (fun hb => by rw [(hwr b hb).2] at q; cases q) (g₂.ext _ _ q)), g₂.le.trans c.le, gw.sub, fun b o q => ?_, ⟨mC, hmC.at' fun o q => gw.ext _ _ hCw q⟩, ⟨oD, nD, gw.ext _ _ hDw hD, pD⟩,
        ⟨c.Cn.1, g₂.ext.none c.Cn.2⟩, ⟨c.Dn.1, g₂.ext.none c.Dn.2⟩, c.CD, rds, hlenys⟩ hk
      rcases c.new b o q with x | x
      · exact g₂.new b o x
      · exact .inr (g₂.ext.none x)
  exact codeAny_compStart_list (loop _ rfl) (itr.self 0 fz₂ _ _ _ hJ₁ (loop _ rfl))
/-- a comprehension as a value -/
theorem comp_sound (B : Base prog w hB) (S : SoundR prog w hB n R) {elt target iter : Expr} {ifs : List Expr} {scope : Scope} {pos : Pos} {k : PyData → Prop} (hk : wpComp R kd elt target iter ifs scope σ k)
    (a : AOK (n + 1) A) (ok : EnvOK kd env) (st : St hB fz s) (r : Rel fz kd env σ s.heap) {Q : Value → Shared → Prop} (hQ : ∀ v d fz' s', Grow fz s fz' s' → Rd fz' v d → k d → Q v s') :
    wpAny (model prog w) A (eval (.ListComp elt [⟨target, iter, ifs, 0⟩] scope pos) env) Q E s := by
  rw [eval_ListComp]
  refine comp_core B S hk a ok st r (use := none) fun C D ys out fz' s' d hk => ?_
  obtain ⟨m, hm⟩ := d.ns
  refine ⟨m, hm, fun h' hs => ?_⟩
  have k' := SameBut.ext hs
  obtain ⟨hh, tk, e⟩ := d.same
  obtain ⟨o, nn, hD, cD, _, dD⟩ := id d.Dl
  have g : Grow fz s (PH.add fz' D o) { s' with heap := h' } := by
    refine ⟨⟨h', tk, by rw [e]⟩, fun b p q => k' b p (fun x => by rw [x, d.Cn.2] at q; cases q) (d.ext _ _ q), d.le.trans (PH.le_add d.Dn.1), fun b p q => ?_, fun b p q => ?_⟩
    · unfold PH.add at q
      split at q
      · rename_i eb; cases q; rw [eb]; exact k' _ _ (Ne.symm d.CD) hD
      · exact k' b p (fun x => by rw [x, d.Cn.1] at q; cases q) (d.sub _ _ q)
    · unfold PH.add at q
      split at q
      · rename_i eb; rw [eb]; exact .inr d.Dn.2
      · exact d.new _ _ q
  exact hQ _ _ _ _ g (.list (PH.add_self ..) cD dD (by rw [List.size_toArray]; exact d.sz) (d.rd.mono (PH.le_add d.Dn.1))) hk
end
end Mine
end
section
open PySem PySem.W PyProof.Rows PySem.Spec PySem.Calls
namespace Mine
section
variable {prog : Program} {w : World} {hB : Heap} {n : Nat} {R : Rec} {kd : KD} {σ : Sg} {A : Around} {env : Env} {s : Shared} {fz : PH} {E : Value → Shared → Prop} {Q : Value → Shared → Prop}
theorem cmpOk_marks {op : CmpOp} {r : Expr} (h : cmpOk op = true) : behindInMarks op r = false := by
  unfold behindInMarks
  split
  · have e : (op == CmpOp.In || op == CmpOp.NotIn) = false := by cases op <;> first | rfl | (cases h; done)
    rw [e]; simp
  · rfl
theorem constD_sound {c : Const} {kk : Nat} {pos : Pos} {k : PyData → Prop} (hk : constD c k) (st : St hB fz s) (hQ : ∀ v d fz' s', Grow fz s fz' s' → Rd fz' v d → k d → Q v s') : wpAny (model prog w) A (eval (.Constant c kk pos) env) Q E s := by
  rw [eval_Constant]
  unfold constD at hk
  split at hk
  · exact wpAny_Constant_int (k := kk) (pos := pos) (env := env) (hQ _ _ _ _ (Grow.tok st.sub _) (.int _ _) hk)
  · exact wpAny_pure (hQ _ _ _ _ (Grow.refl st.sub) (.bool _) hk)
  · exact wpAny_pure (hQ _ _ _ _ (Grow.refl st.sub) .none hk)
  · exact Constant_str (k := kk) (pos := pos) (env := env) (hQ _ _ _ _ (Grow.tok st.sub _) (.str _ _) hk)
  · exact hk.elim
theorem newSeq {cls : String} {vs : List Value} (st : St hB fz s) (hlen : vs.length ≤ 2 ^ 20)
    (hQ : ∀ fz', Grow fz s fz' { s with heap := s.heap.push { cls := .type cls, data := .seq vs.toArray } } → fz' s.heap.objs.size = some { cls := .type cls, data := .seq vs.toArray } → PH.le fz fz' → Q (.ref s.heap.objs.size) { s with heap := s.heap.push { cls := .type cls, data := .seq vs.toArray } }) :
    wpAny (model prog w) A (newObj (.type cls) (.seq vs.toArray)) Q E s := by
  refine wpAny_newObj_type ?_ (by show vs.toArray.size ≤ sizeLine; rw [List.size_toArray, sizeLine_eq]; (first | lia | omega))
  have g := Grow.add (tk := s.toks) st.sub (o := ({ cls := .type cls, data := .seq vs.toArray } : Obj)) (fun b o e => Heap.get?_push_of_some _ e) (Heap.get?_push_size s.heap rfl) (Heap.get?_none_of_le (Nat.le_refl _))
  exact hQ _ g (PH.add_self ..) g.le
theorem Grow.frz {fz fz' : PH} {s s' : Shared} {l : Addr} {o : Obj} (g : Grow fz s fz' s') (hn : fz' l = none) (hn' : s.heap.get? l = none) (ho : s'.heap.get? l = some o) : Grow fz s (PH.add fz' l o) s' := by
  refine ⟨g.same, g.ext, g.le.trans (PH.le_add hn), fun b p q => ?_, fun b p q => ?_⟩
  · unfold PH.add at q
    split at q
    · rename_i eb; cases q; rw [eb]; exact ho
    · exact g.sub _ _ q
  · unfold PH.add at q
    split at q
    · rename_i eb; rw [eb]; exact .inr hn'
    · exact g.new _ _ q
theorem tuple_sound (S : SoundR prog w hB n R) {es : List Expr} {kk : Nat} {pos : Pos} {k : PyData → Prop} (h30 : es.length ≤ 30) (hk : wpArgs R kd es σ fun ds => k (.tuple ds)) (a : AOK (n + 1) A) (ok : EnvOK kd env) (st : St hB fz s) (r : Rel fz kd env σ s.heap)
    (hQ : ∀ v d fz' s', Grow fz s fz' s' → Rd fz' v d → k d → Q v s') : wpAny (model prog w) A (eval (.Tuple es kk pos) env) Q E s := by
  refine Tuple_ (args1_sound S hk.1 hk.2 a ok st r fun vs ds fz' s' g rds hl hk => ?_)
  have e := rds.length
  refine newSeq (st.grow g) (by (first | lia | omega)) fun fz'' g' ho le => hQ _ _ _ _ (g.trans g') (.tuple ho rfl rfl (by rw [List.size_toArray]; (first | lia | omega)) (rds.mono le)) hk
/-- a list display: the list is new, and of the plain form -/
theorem list_made (S : SoundR prog w hB n R) {es : List Expr} {pos : Pos} {k : List PyData → Prop} (h30 : es.length ≤ 30) (hk : wpArgs R kd es σ k) (a : AOK (n + 1) A) (ok : EnvOK kd env) (st : St hB fz s) (r : Rel fz kd env σ s.heap)
    (hQ : ∀ l vs ds fz' s', Grow fz s fz' s' → fz' l = none → s.heap.get? l = none → s'.heap.get? l = some { cls := .type "list", data := .seq vs.toArray } → RdAll fz' vs ds → ds.length ≤ 30 → k ds → Q (.ref l) s') : wpAny (model prog w) A (eval (.List es pos) env) Q E s := by
  refine List_ (args1_sound S hk.1 hk.2 a ok st r fun vs ds fz' s' g rds hl hk => ?_)
  have e := rds.length
  refine wpAny_newObj_type ?_ (by show vs.toArray.size ≤ sizeLine; rw [List.size_toArray, sizeLine_eq]; (first | lia | omega))
  have hn : s'.heap.get? s'.heap.objs.size = none := Heap.get?_none_of_le (Nat.le_refl _)
  have g' := Grow.keep (tk := s'.toks) (h := s'.heap.push { cls := .type "list", data := .seq vs.toArray }) g.sub (fun b o e => Heap.get?_push_of_some _ e)
  exact hQ _ _ _ _ _ (g.trans g') (PH.none_of g.sub hn) (g.ext.none hn) (Heap.get?_push_size _ rfl) rds (by (first | lia | omega)) hk
theorem list_sound (S : SoundR prog w hB n R) {es : List Expr} {pos : Pos} {k : PyData → Prop} (h30 : es.length ≤ 30) (hk : wpArgs R kd es σ fun ds => k (.list ds)) (a : AOK (n + 1) A) (ok : EnvOK kd env) (st : St hB fz s) (r : Rel fz kd env σ s.heap)
    (hQ : ∀ v d fz' s', Grow fz s fz' s' → Rd fz' v d → k d → Q v s') : wpAny (model prog w) A (eval (.List es pos) env) Q E s := by
  refine list_made S h30 hk a ok st r fun l vs ds fz' s' g hn hn' ho rds h30' hk => ?_
  have e := rds.length
  exact hQ _ _ _ _ (g.frz hn hn' ho) (.list (PH.add_self ..) rfl rfl (by rw [List.size_toArray]; (first | lia | omega)) (rds.mono (PH.le_add hn))) hk
theorem binE_sound (S : SoundR prog w hB n R) {l r : Expr} {op : Operator} {pos : Pos} {k : PyData → Prop} (hk : wpBinE R kd l op r σ k) (a : AOK (n + 1) A) (ok : EnvOK kd env) (st : St hB fz s) (rl : Rel fz kd env σ s.heap)
    (hQ : ∀ v d fz' s', Grow fz s fz' s' → Rd fz' v d → k d → Q v s') : wpAny (model prog w) A (eval (.BinOp l op r pos) env) Q E s := by
  have plain : (R.e kd l σ fun a => R.e kd r σ fun b => wpBin op a b k) → wpAny (model prog w) A (eval (.BinOp l op r pos) env) Q E s := fun hk =>
    wpAny_BinOp (S.e _ _ _ _ _ _ _ _ _ _ hk a ok st rl fun va da fz1 s1 g1 ra hk => S.e _ _ _ _ _ _ _ _ _ _ hk a ok (st.grow g1) (rl.grow g1) fun vb db fz2 s2 g2 rb hk =>
      bin_sound hk ((st.grow g1).grow g2) (ra.mono g2.le) rb fun v d fz3 s3 g3 rd hk => hQ _ _ _ _ ((g1.trans g2).trans g3) rd hk)
  unfold wpBinE at hk
  split at hk
  · split at hk
    · obtain ⟨h30, hk⟩ := hk
      refine wpAny_BinOp (list_made S h30 hk a ok st rl fun l vs ds fz1 s1 g1 hn hn' ho rds h30' hk => ?_)
      have st1 := st.grow g1
      refine S.e _ _ _ _ _ _ _ _ _ _ hk a ok st1 (rl.grow g1) fun vb db fz2 s2 g2 rb hk => ?_
      cases rb <;> first | exact hk.elim | skip
      rename_i x u
      obtain ⟨hx, hlo, hk⟩ := hk
      exact bin_list_mul (st1.grow g2) (g2.ext _ _ ho) (rds.mono g2.le) h30' hx hlo fun v fz3 s3 g3 rd => hQ _ _ _ _ ((g1.trans g2).trans g3) rd hk
    · exact plain hk
  · exact plain hk
end
section
variable {prog : Program} {w : World} {hB : Heap} {ad : Str → Addr} {n : Nat} {R : Rec} {kd : KD} {σ : Sg} {A : Around} {env : Env} {s : Shared} {fz : PH} {E : Value → Shared → Prop}
theorem stepE_sound (B : Base prog w hB) (S : SoundR prog w hB n R) {e : Expr} {k : PyData → Prop} {Q : Value → Shared → Prop} (hk : stepE (semC prog w hB ad n) R kd e σ k) (a : AOK (n + 1) A) (ok : EnvOK kd env) (st : St hB fz s) (r : Rel fz kd env σ s.heap)
    (hQ : ∀ v d fz' s', Grow fz s fz' s' → Rd fz' v d → k d → Q v s') : wpAny (model prog w) A (eval e env) Q E s := by
  have hu : A.units + 64 < cLine := by have := a.un; (first | lia | omega)
  cases e with
  | Constant c m p => exact constD_sound hk st hQ
  | Name x p =>
    rcases (show (isVar kd x = true ∧ shName x σ k) ∨ (kd x = some .globalImplicit ∧ ∃ d, (semC prog w hB ad n).glob x d ∧ k d) from hk) with ⟨hv, hk⟩ | ⟨hg, d, ⟨v, hG, rd⟩, hk⟩
    · unfold shName at hk
      split at hk
      · rename_i d hg
        obtain ⟨v, va, rd⟩ := r.sh _ _ hv hg
        exact name_var ok hv va (hQ _ _ _ _ (Grow.refl st.sub) rd hk)
      · exact hk.elim
    · exact name_glob ok hg hG st (hQ _ _ _ _ (Grow.refl st.sub) (rd.mono st.base) hk)
  | BinOp l op r' p => exact binE_sound S hk a ok st r hQ
  | UnaryOp op x p =>
    cases op with
    | USub =>
      refine wpAny_UnaryOp (S.e _ _ _ _ _ _ _ _ _ _ hk a ok st r fun v d fz' s' g rd hd => ?_)
      cases rd <;> first | exact hd.elim | skip
      exact PyProof.Rows.neg_int (hQ _ _ _ _ (g.trans (Grow.tok g.sub _)) (.int _ _) hd)
    | _ => exact hk.elim
  | IfExp t b o p =>
    refine wpAny_IfExp (S.t _ _ _ _ _ _ _ _ _ _ hk a ok st r fun b fz' s' g hb => ?_)
    cases b
    · exact S.e _ _ _ _ _ _ _ _ _ _ (hb.2 rfl) a ok (st.grow g) (r.grow g) fun v d fz'' s'' g' rd hd => hQ _ _ _ _ (g.trans g') rd hd
    · exact S.e _ _ _ _ _ _ _ _ _ _ (hb.1 rfl) a ok (st.grow g) (r.grow g) fun v d fz'' s'' g' rd hd => hQ _ _ _ _ (g.trans g') rd hd
  | Compare l ops rs p =>
    rcases ops with _ | ⟨op, _ | ⟨op2, ops⟩⟩ <;> rcases rs with _ | ⟨r1, _ | ⟨r2, rs⟩⟩ <;> first | exact hk.elim | skip
    obtain ⟨hc, hk⟩ := hk
    refine wpAny_Compare1 (rdE_sound S hk a ok st r fun va da fz1 s1 g1 ra hk => rdE_sound S hk a ok (st.grow g1) (r.grow g1) fun vb db fz2 s2 g2 rb hk => ?_) (cmpOk_marks hc)
    exact cmp_sound hk hu ((st.grow g1).grow g2) (ra.grow g2) rb fun c hc => hQ _ _ _ _ (g1.trans g2) (.bool _) hc
  | BoolOp op xs p =>
    cases op with
    | And =>
      rcases xs with _ | ⟨x, _ | ⟨y, _ | ⟨z, xs⟩⟩⟩ <;> first | exact hk.elim | skip
      refine wpAny_And2 (S.e _ _ _ _ _ _ _ _ _ _ hk a ok st r fun v d fz' s' g rd hd => ?_)
      cases rd <;> first | exact hd.elim | skip
      rename_i b
      refine wpAny_truthy_bool ?_
      cases b
      · exact hQ _ _ _ _ g (.bool _) (hd.2 rfl)
      · exact S.e _ _ _ _ _ _ _ _ _ _ (hd.1 rfl) a ok (st.grow g) (r.grow g) fun v d fz'' s'' g' rd hd => hQ _ _ _ _ (g.trans g') rd hd
    | Or => exact hk.elim
  | Tuple es m p => exact tuple_sound S hk.1 hk.2 a ok st r hQ
  | List es p => exact list_sound S hk.1 hk.2 a ok st r hQ
  | Subscript v sl p => exact sub_sound S hk a ok st r hQ
  | Call f args ks p =>
    cases f with
    | Name f q =>
      cases ks with
      | nil => exact callN_sound B S hk a ok st r hQ
      | cons k1 ks => exact hk.elim
    | _ => exact hk.elim
  | ListComp elt gs sc p =>
    rcases gs with _ | ⟨⟨t, i, ifs, as⟩, _ | ⟨g, gs⟩⟩
    · exact hk.elim
    · rcases as with (_ | m) | m
      · exact comp_sound B S hk a ok st r hQ
      · exact hk.elim
      · exact hk.elim
    · rcases as with (_ | m) | m <;> exact hk.elim
  | _ => exact hk.elim
theorem stepT_sound (B : Base prog w hB) (S : SoundR prog w hB n R) {e : Expr} {k : Bool → Prop} {Q : Bool → Shared → Prop} (hk : stepT (semC prog w hB ad n) R kd e σ k) (a : AOK (n + 1) A) (ok : EnvOK kd env) (st : St hB fz s) (r : Rel fz kd env σ s.heap)
    (hQ : ∀ b fz' s', Grow fz s fz' s' → k b → Q b s') : wpAny (model prog w) A (isTrue e env (eval e env)) Q E s := by
  have hu : A.units + 64 < cLine := by have := a.un; (first | lia | omega)
  cases e with
  | Compare l ops rs p =>
    rcases ops with _ | ⟨op, _ | ⟨op2, ops⟩⟩ <;> rcases rs with _ | ⟨r1, _ | ⟨r2, rs⟩⟩ <;> first | exact hk.elim | skip
    obtain ⟨hc, hk⟩ := hk
    refine wpAny_isTrue_Compare1 (rdE_sound S hk a ok st r fun va da fz1 s1 g1 ra hk => rdE_sound S hk a ok (st.grow g1) (r.grow g1) fun vb db fz2 s2 g2 rb hk => ?_) (cmpOk_marks hc)
    exact cmp_sound (Q := fun c s₃ => wpAny (model prog w) A (truthy c) Q E s₃) hk hu ((st.grow g1).grow g2) (ra.grow g2) rb fun c hc => wpAny_truthy_bool (hQ _ _ _ (g1.trans g2) hc)
  | BoolOp op xs p =>
    rcases xs with _ | ⟨x, _ | ⟨y, _ | ⟨z, xs⟩⟩⟩ <;> cases op <;> first | exact hk.elim | skip
    · refine isTrue_and (S.t _ _ _ _ _ _ _ _ _ _ hk a ok st r fun b fz' s' g hb => ?_)
      cases b
      · exact hQ _ _ _ g (hb.2 rfl)
      · refine isTrue_and (S.t _ _ _ _ _ _ _ _ _ _ (hb.1 rfl) a ok (st.grow g) (r.grow g) fun b fz'' s'' g' hb => ?_)
        cases b
        · exact hQ _ _ _ (g.trans g') hb
        · exact isTrue_and_nil (hQ _ _ _ (g.trans g') hb)
    · refine isTrue_or (S.t _ _ _ _ _ _ _ _ _ _ hk a ok st r fun b fz' s' g hb => ?_)
      cases b
      · refine isTrue_or (S.t _ _ _ _ _ _ _ _ _ _ (hb.2 rfl) a ok (st.grow g) (r.grow g) fun b fz'' s'' g' hb => ?_)
        cases b
        · exact isTrue_or_nil (hQ _ _ _ (g.trans g') hb)
        · exact hQ _ _ _ (g.trans g') hb
      · exact hQ _ _ _ g (hb.1 rfl)
  | Call f args ks p =>
    cases f with
    | Name f q =>
      cases ks with
      | nil =>
        refine isTrue_plain (callN_sound B S hk a ok st r fun v d fz' s' g rd hd => ?_)
        cases rd <;> first | exact hd.elim | skip
        exact wpAny_truthy_bool (hQ _ _ _ g hd)
      | cons k1 ks => exact hk.elim
    | _ => exact hk.elim
  | _ => exact hk.elim
theorem wpN_sound (B : Base prog w hB) : ∀ N, SoundR prog w hB n (wpN (semC prog w hB ad n) N)
  | 0 => ⟨fun _ _ _ _ _ _ _ _ _ _ h => h.elim, fun _ _ _ _ _ _ _ _ _ _ h => h.elim⟩
  | N + 1 => ⟨fun kd e σ k A env s fz Q E h a ok st r hQ => stepE_sound B (wpN_sound B N) h a ok st r hQ, fun kd e σ k A env s fz Q E h a ok st r hQ => stepT_sound B (wpN_sound B N) h a ok st r hQ⟩
end
end Mine
end
section
open PySem PySem.W PyProof.Rows PySem.Spec PySem.Calls
namespace Mine
section
variable {prog : Program} {w : World} {A : Around} {s : Shared} {E : Value → Shared → Prop}
/-- a store into a list of the plain form leaves one of the plain form -/
theorem set_plain {l : Addr} {vs : Array Value} {k : Int} {t : Tok} {v : Value} {Q : Unit → Shared → Prop} (hl : PlainL s.heap l vs) (h0 : 0 ≤ k) (hfit : k < 2 ^ 63) (hn : k < vs.size)
    (hQ : ∀ h', PlainL h' l (vs.setIfInBounds k.toNat v) → Heap.SameBut l s.heap h' → Q () { s with heap := h' }) :
    wpAny (model prog w) A (setItem (.ref l) (.int k t) v) Q E s := by
  have hT := hl.isList.typeIs
  obtain ⟨⟨c, d, dt, sl⟩, n, ho, hc, hdn, hd⟩ := id hl
  simp only at hc hdn hd
  subst hc hdn hd
  have fits := fitsIndex_of h0 hfit
  clear hfit
  unfold setItem
  refine wpAny_holding (wpAny_bind (wpAny_sequenceKey hT (by decide) ?_))
  refine wpAny_bind (wpAny_callSpecial?_slot (name := Str.ofString "__setitem__") hT slot_list_setitem (wpAny_call_entry slot_list_setitem hT entry_list_setitem ?_ (args_list_setitem _ _ _)))
  show wpAny _ _ (Builtin.List.listSubscript? (.int k t) >>= _) _ _ s
  refine wpAny_bind (wpAny_listSubscript_int fits ?_)
  clear fits
  obtain ⟨j, rfl⟩ := Int.eq_ofNat_of_zero_le h0
  have hj : vs[j]? = some (vs[j]'(by (first | lia | omega))) := Array.getElem?_eq_getElem (by (first | lia | omega))
  obtain ⟨n', hd'⟩ := Obj.data_mapSeq (o := { cls := .type "list", dict := none, data := .seq vs n, slots := sl }) rfl (·.setIfInBounds j v)
  have fin : PlainL (s.heap.update l (Obj.mapSeq (·.setIfInBounds j v))) l (vs.setIfInBounds j v) :=
    ⟨_, n', Heap.get?_update_self _ ho (Obj.isFreed_of_seq hd'), rfl, rfl, hd'⟩
  have last : Q () { s with heap := s.heap.update l (Obj.mapSeq (·.setIfInBounds j v)) } := hQ _ fin (Heap.SameBut.update ..)
  show wpAny _ _ ((seqItemAt l j >>= fun r => pure (r.map (j, ·))) >>= _) _ _ s
  refine wpAny_bind (wpAny_bind (wpAny_seqItemAt ho rfl (wpAny_pure ?_)))
  rw [hj]
  show wpAny _ _ (setSeqItemAt l j v >>= _) _ _ s
  refine wpAny_bind (wpAny_setSeqItemAt ho rfl ?_)
  exact wpAny_pure ⟨.none, rfl, wpAny_pure last⟩
end
end Mine
end
section
open PySem PySem.W PyProof.Rows PySem.Spec PySem.Calls
namespace Mine
theorem Ns_unique {h : Heap} {a : Addr} {m m' : Str → Option Value} (x : h.Ns a m) (y : h.Ns a m') : m = m' := by
  obtain ⟨o, es, ep, e, d, _, f⟩ := x
  obtain ⟨o', es', ep', e', d', _, f'⟩ := y
  rw [e] at e'; cases e'
  rw [d] at d'; cases d'
  funext z
  rw [← f z, ← f' z]
/-- a def's frame: what it holds, what it may turn -/
structure FSim (kp fz₀ : PH) (s₀ : Shared) (fz : PH) (ow : Str → Option Addr) (kd : KD) (env : Env) (σ : Sg) (s : Shared) : Prop where
  same : ∃ h tk, s = { s₀ with heap := h, toks := tk }
  keep : ∀ a o, kp a = some o → s.heap.get? a = some o
  le : PH.le fz₀ fz
  sub : Inn fz s.heap
  new : ∀ a o, fz a = some o → fz₀ a = some o ∨ kp a = none
  loc : ∃ m, s.heap.Ns env.locals m
  locn : kp env.locals = none ∧ fz env.locals = none
  cel : ∀ x c, env.cells.lookup x = some c → (∃ v, s.heap.IsCell c v) ∧ kp c = none ∧ fz c = none ∧ c ≠ env.locals
  celi : ∀ x y c, env.cells.lookup x = some c → env.cells.lookup y = some c → x = y
  own : ∀ x a, ow x = some a → (∃ o, s.heap.get? a = some o) ∧ kp a = none ∧ fz a = none ∧ a ≠ env.locals ∧ (∀ y c, env.cells.lookup y = some c → c ≠ a)
  owi : ∀ x y a, ow x = some a → ow y = some a → x = y
  sh : ∀ x d, isVar kd x = true → σ.get x = some (.sh d) → ∃ v, VarAt s.heap env x v ∧ Rd fz v d
  owv : ∀ x ds, isVar kd x = true → σ.get x = some (.own ds) → ∃ a vs, ow x = some a ∧ VarAt s.heap env x (.ref a) ∧ PlainL s.heap a vs ∧ vs.size ≤ 2 ^ 20 ∧ RdAll fz vs.toList ds
section
variable {kp fz₀ : PH} {s₀ : Shared} {fz : PH} {ow : Str → Option Addr} {kd : KD} {env : Env} {σ : Sg} {s : Shared}
theorem FSim.rel (F : FSim kp fz₀ s₀ fz ow kd env σ s) : Rel fz kd env σ s.heap := ⟨F.sh, fun x ds h1 h2 => let ⟨a, vs, _, r⟩ := F.owv x ds h1 h2; ⟨a, vs, r⟩⟩
theorem FSim.st {hB : Heap} (F : FSim kp fz₀ s₀ fz ow kd env σ s) (hb : ∀ a o, hB.get? a = some o → fz₀ a = some o) : St hB fz s := ⟨F.sub, fun a o e => F.le _ _ (hb a o e)⟩
theorem FSim.grow {fz' : PH} {s' : Shared} (F : FSim kp fz₀ s₀ fz ow kd env σ s) (g : Grow fz s fz' s') : FSim kp fz₀ s₀ fz' ow kd env σ s' := by
  obtain ⟨h, tk, e⟩ := F.same
  obtain ⟨h', tk', e'⟩ := g.same
  have fresh : ∀ a o, s.heap.get? a = some o → fz a = none → fz' a = none := fun a o q hn => by
    cases r : fz' a with
    | none => rfl
    | some o' =>
      rcases g.new a o' r with x | x
      · rw [hn] at x; cases x
      · rw [q] at x; cases x
  obtain ⟨m, hm⟩ := F.loc
  obtain ⟨oL, hL⟩ : ∃ o, s.heap.get? env.locals = some o := let ⟨o, _, _, q, _⟩ := hm; ⟨o, q⟩
  refine ⟨⟨h', tk', by rw [e', e]⟩, fun a o q => g.ext _ _ (F.keep a o q), F.le.trans g.le, g.sub, fun a o q => ?_, ⟨m, hm.keeps g.ext⟩, ⟨F.locn.1, fresh _ _ hL F.locn.2⟩, fun x c hc => ?_, F.celi, fun x a ha => ?_, F.owi, fun x d h1 h2 => ?_, fun x ds h1 h2 => ?_⟩
  · rcases g.new a o q with x | x
    · exact F.new a o x
    · right
      cases r : kp a with
      | none => rfl
      | some o' => rw [F.keep a o' r] at x; cases x
  · obtain ⟨⟨v, hv⟩, h1, h2, h3⟩ := F.cel x c hc
    obtain ⟨o, ho, _⟩ := id hv
    exact ⟨⟨v, hv.keeps g.ext⟩, h1, fresh _ _ ho h2, h3⟩
  · obtain ⟨⟨o, ho⟩, h1, h2, h3⟩ := F.own x a ha
    exact ⟨⟨o, g.ext _ _ ho⟩, h1, fresh _ _ ho h2, h3⟩
  · obtain ⟨v, a, r⟩ := F.sh x d h1 h2
    exact ⟨v, a.ext g.ext, r.mono g.le⟩
  · obtain ⟨a, vs, ha, va, p, z, r⟩ := F.owv x ds h1 h2
    exact ⟨a, vs, ha, va.ext g.ext, p.keeps g.ext, z, r.mono g.le⟩
variable {prog : Program} {w : World} {A : Around} {E : Value → Shared → Prop}
theorem canStore_cases {x : Str} (h : canStore kd x = true) : kd x = some .local ∨ kd x = some .cell := by
  unfold canStore at h
  split at h
  · rename_i q; exact .inl q
  · rename_i q; exact .inr q
  · cases h
theorem canStore_isVar {x : Str} (h : canStore kd x = true) : isVar kd x = true := by
  unfold isVar
  rcases canStore_cases h with q | q <;> rw [q]
theorem store_raw {x : Str} {v : Value} {Q : Unit → Shared → Prop} (hx : canStore kd x = true) (ok : EnvOK kd env) (F : FSim kp fz₀ s₀ fz ow kd env σ s)
    (hQ : ∀ h' tk adr, (adr = env.locals ∨ ∃ z, env.cells.lookup z = some adr) → Heap.SameBut adr s.heap h' → (∃ m, h'.Ns env.locals m) → (∀ y c, env.cells.lookup y = some c → ∃ v, h'.IsCell c v) →
      VarAt h' env x v → (∀ y u, y ≠ x → VarAt s.heap env y u → VarAt h' env y u) → Q () { s with heap := h', toks := tk }) :
    wpAny (model prog w) A (storeName env x v) Q E s := by
  obtain ⟨m, hm⟩ := F.loc
  rcases canStore_cases hx with q | q
  · have hk : env.kindOf x = some .local := (ok.kdof x).trans q
    refine wpAny_storeName_local hk hm (fun h' hn hs => ?_) (by rw [ok.fn]; rfl)
    refine hQ h' _ env.locals (.inl rfl) hs ⟨_, hn⟩ (fun y c hc => ?_) (.inl ⟨hk, _, hn, by simp⟩) fun y u hy a => ?_
    · obtain ⟨⟨v, hv⟩, _, _, h3⟩ := F.cel y c hc
      exact ⟨v, hv.sameBut hs h3⟩
    · rcases a with ⟨k, m', hn', hm'⟩ | ⟨k, c, hc, i⟩
      · refine .inl ⟨k, _, hn, ?_⟩
        rw [Ns_unique hn' hm] at hm'
        rw [if_neg hy]; exact hm'
      · exact .inr ⟨k, c, hc, i.sameBut hs (F.cel y c hc).2.2.2⟩
  · have hk : env.kindOf x = some .cell := (ok.kdof x).trans q
    obtain ⟨c, hc⟩ := ok.cells x (.inl q)
    obtain ⟨⟨v₀, hv₀⟩, _, _, hcl⟩ := F.cel x c hc
    refine wpAny_storeName_cell ok.fn hk hc hv₀ fun h' hv hs => ?_
    refine hQ h' _ c (.inr ⟨x, hc⟩) hs ⟨m, hm.sameBut hs (Ne.symm hcl)⟩ (fun y c' hc' => ?_) (.inr ⟨.inl hk, c, hc, hv⟩) fun y u hy a => ?_
    · by_cases e : c' = c
      · rw [e]; exact ⟨_, hv⟩
      · obtain ⟨⟨v, hv⟩, _⟩ := F.cel y c' hc'
        exact ⟨v, hv.sameBut hs e⟩
    · rcases a with ⟨k, m', hn', hm'⟩ | ⟨k, c', hc', i⟩
      · exact .inl ⟨k, m', hn'.sameBut hs (Ne.symm hcl), hm'⟩
      · exact .inr ⟨k, c', hc', i.sameBut hs fun e => hy (F.celi y x c (e ▸ hc') hc)⟩
noncomputable def owNo (ow : Str → Option Addr) (x : Str) : Str → Option Addr := fun y => if y = x then none else ow y
noncomputable def owTo (ow : Str → Option Addr) (x : Str) (a : Addr) : Str → Option Addr := fun y => if y = x then some a else ow y
/-- a store of a value that is shared from then on -/
theorem store_sh {x : Str} {v : Value} {d : PyData} {Q : Unit → Shared → Prop} (hx : canStore kd x = true) (ok : EnvOK kd env) (F : FSim kp fz₀ s₀ fz ow kd env σ s) (rd : Rd fz v d)
    (hQ : ∀ s', FSim kp fz₀ s₀ fz (owNo ow x) kd env (σ.set x (.sh d)) s' → (∀ y u, y ≠ x → VarAt s.heap env y u → VarAt s'.heap env y u) → (∀ b o, b ≠ env.locals → (∀ z c, env.cells.lookup z = some c → c ≠ b) → s.heap.get? b = some o → s'.heap.get? b = some o) → Q () s') :
    wpAny (model prog w) A (storeName env x v) Q E s := by
  refine store_raw hx ok F fun h' tk adr hadr hs hL hC hv hoth => ?_
  obtain ⟨h, tk₀, e⟩ := F.same
  have k' := SameBut.ext hs
  have akp : kp adr = none ∧ fz adr = none := by
    rcases hadr with rfl | ⟨z, hz⟩
    · exact F.locn
    · exact ⟨(F.cel z adr hz).2.1, (F.cel z adr hz).2.2.1⟩
  have aown : ∀ y a, ow y = some a → a ≠ adr := fun y a ha => by
    obtain ⟨_, _, _, h3, h4⟩ := F.own y a ha
    rcases hadr with rfl | ⟨z, hz⟩
    · exact h3
    · exact Ne.symm (h4 z adr hz)
  refine hQ _ ⟨⟨h', tk, by rw [e]⟩, fun a o q => k' _ _ (fun r => by rw [r, akp.1] at q; cases q) (F.keep a o q), F.le, fun a o q => k' _ _ (fun r => by rw [r, akp.2] at q; cases q) (F.sub a o q), F.new, hL, F.locn,
    fun y c hc => ⟨hC y c hc, (F.cel y c hc).2⟩, F.celi, fun y a ha => ?_, fun y z a hy hz => ?_, fun y d' h1 h2 => ?_, fun y ds h1 h2 => ?_⟩ hoth fun b o hll hlc q => k' _ _ ?_ q
  · unfold owNo at ha
    split at ha
    · cases ha
    · obtain ⟨⟨o, ho⟩, r⟩ := F.own y a ha
      exact ⟨⟨o, k' _ _ (aown y a ha) ho⟩, r⟩
  · unfold owNo at hy hz
    split at hy
    · cases hy
    · split at hz
      · cases hz
      · exact F.owi y z a hy hz
  · rw [Sg.get_set] at h2
    split at h2
    · rename_i ey; cases h2; rw [ey]; exact ⟨v, hv, rd⟩
    · rename_i ey
      obtain ⟨u, a, r⟩ := F.sh y d' h1 h2
      exact ⟨u, hoth y u ey a, r⟩
  · rw [Sg.get_set] at h2
    split at h2
    · cases h2
    · rename_i ey
      obtain ⟨a, vs, ha, va, p, z, r⟩ := F.owv y ds h1 h2
      obtain ⟨o, nn, q, qq⟩ := p
      exact ⟨a, vs, by unfold owNo; rw [if_neg ey]; exact ha, hoth y _ ey va, ⟨o, nn, k' _ _ (aown y a ha) q, qq⟩, z, r⟩
  · rcases hadr with rfl | ⟨z, hz⟩
    · exact hll
    · exact Ne.symm (hlc z adr hz)
/-- a store of a list that is the name's own -/
theorem store_own {x : Str} {l : Addr} {vs : Array Value} {ds : List PyData} {Q : Unit → Shared → Prop} (hx : canStore kd x = true) (ok : EnvOK kd env) (F : FSim kp fz₀ s₀ fz ow kd env σ s)
    (hf : fz l = none) (hk : kp l = none) (hl : l ≠ env.locals) (hc : ∀ z c, env.cells.lookup z = some c → c ≠ l) (ho : ∀ y, ow y ≠ some l) (p : PlainL s.heap l vs) (z : vs.size ≤ 2 ^ 20) (r : RdAll fz vs.toList ds)
    (hQ : ∀ s', FSim kp fz₀ s₀ fz (owTo ow x l) kd env (σ.set x (.own ds)) s' → (∀ y u, y ≠ x → VarAt s.heap env y u → VarAt s'.heap env y u) → (∀ b o, b ≠ env.locals → (∀ z c, env.cells.lookup z = some c → c ≠ b) → s.heap.get? b = some o → s'.heap.get? b = some o) → Q () s') :
    wpAny (model prog w) A (storeName env x (.ref l)) Q E s := by
  refine store_raw hx ok F fun h' tk adr hadr hs hL hC hv hoth => ?_
  obtain ⟨h, tk₀, e⟩ := F.same
  have k' := SameBut.ext hs
  have akp : kp adr = none ∧ fz adr = none := by
    rcases hadr with rfl | ⟨z, hz⟩
    · exact F.locn
    · exact ⟨(F.cel z adr hz).2.1, (F.cel z adr hz).2.2.1⟩
  have aown : ∀ y a, ow y = some a → a ≠ adr := fun y a ha => by
    obtain ⟨_, _, _, h3, h4⟩ := F.own y a ha
    rcases hadr with rfl | ⟨z, hz⟩
    · exact h3
    · exact Ne.symm (h4 z adr hz)
  have lne : ∀ l, l ≠ env.locals → (∀ z c, env.cells.lookup z = some c → c ≠ l) → l ≠ adr := fun l hl hc => by
    rcases hadr with rfl | ⟨z, hz⟩
    · exact hl
    · exact Ne.symm (hc z adr hz)
  have pl : ∀ l vs, l ≠ env.locals → (∀ z c, env.cells.lookup z = some c → c ≠ l) → PlainL s.heap l vs → PlainL h' l vs := fun l vs hl hc p => by
    obtain ⟨o, nn, q, qq⟩ := p
    exact ⟨o, nn, k' _ _ (lne l hl hc) q, qq⟩
  refine hQ _ ⟨⟨h', tk, by rw [e]⟩, fun a o q => k' _ _ (fun r => by rw [r, akp.1] at q; cases q) (F.keep a o q), F.le, fun a o q => k' _ _ (fun r => by rw [r, akp.2] at q; cases q) (F.sub a o q), F.new, hL, F.locn,
    fun y c hc => ⟨hC y c hc, (F.cel y c hc).2⟩, F.celi, fun y a ha => ?_, fun y z a hy hz => ?_, fun y d' h1 h2 => ?_, fun y ds' h1 h2 => ?_⟩ hoth fun b o hll hlc q => k' _ _ (lne b hll hlc) q
  · unfold owTo at ha
    split at ha
    · cases ha
      obtain ⟨o, nn, q, qq⟩ := pl l vs hl hc p
      exact ⟨⟨o, q⟩, hk, hf, hl, hc⟩
    · obtain ⟨⟨o, ho⟩, r⟩ := F.own y a ha
      exact ⟨⟨o, k' _ _ (aown y a ha) ho⟩, r⟩
  · unfold owTo at hy hz
    split at hy
    · rename_i e1
      split at hz
      · rename_i e2; rw [e1, e2]
      · cases hy; exact absurd hz (ho z)
    · split at hz
      · cases hz; exact absurd hy (ho y)
      · exact F.owi y z a hy hz
  · rw [Sg.get_set] at h2
    split at h2
    · cases h2
    · rename_i ey
      obtain ⟨u, a, r⟩ := F.sh y d' h1 h2
      exact ⟨u, hoth y u ey a, r⟩
  · rw [Sg.get_set] at h2
    split at h2
    · rename_i ey; cases h2
      exact ⟨l, vs, by unfold owTo; rw [if_pos ey], ey ▸ hv, pl l vs hl hc p, z, r⟩
    · rename_i ey
      obtain ⟨a, vs, ha, va, p, z, r⟩ := F.owv y ds' h1 h2
      obtain ⟨o, nn, q, qq⟩ := p
      exact ⟨a, vs, by unfold owTo; rw [if_neg ey]; exact ha, hoth y _ ey va, ⟨o, nn, k' _ _ (aown y a ha) q, qq⟩, z, r⟩
/-- an owned list is turned -/
theorem FSim.turn {x : Str} {l : Addr} {ds ds' : List PyData} {vs' : Array Value} {h' : Heap} {tk : Nat} (F : FSim kp fz₀ s₀ fz ow kd env σ s) (hx : isVar kd x = true) (hg : σ.get x = some (.own ds)) (hl : ow x = some l) (va : VarAt s.heap env x (.ref l)) (hs : ∀ b o, b ≠ l → s.heap.get? b = some o → h'.get? b = some o)
    (p : PlainL h' l vs') (z : vs'.size ≤ 2 ^ 20) (r : RdAll fz vs'.toList ds') : FSim kp fz₀ s₀ fz ow kd env (σ.set x (.own ds')) { s with heap := h', toks := tk } := by
  obtain ⟨h, tk₀, e⟩ := F.same
  obtain ⟨⟨o, ho⟩, h1, h2, h3, h4⟩ := F.own x l hl
  obtain ⟨m, hm⟩ := F.loc
  have hn' : h'.Ns env.locals m := hm.at' fun o q => hs _ _ (Ne.symm h3) q
  have vk : ∀ y u, VarAt s.heap env y u → VarAt h' env y u := fun y u a => by
    rcases a with ⟨k, m', n', hm'⟩ | ⟨k, c, hc, i⟩
    · exact .inl ⟨k, m', n'.at' fun o q => hs _ _ (Ne.symm h3) q, hm'⟩
    · obtain ⟨o', ho', hd'⟩ := i
      exact .inr ⟨k, c, hc, o', hs _ _ (h4 y c hc) ho', hd'⟩
  refine ⟨⟨h', tk, by rw [e]⟩, fun a o q => hs _ _ (fun r => by rw [r, h1] at q; cases q) (F.keep a o q), F.le, fun a o q => hs _ _ (fun r => by rw [r, h2] at q; cases q) (F.sub a o q), F.new, ⟨m, hn'⟩, F.locn, fun y c hc => ?_, F.celi, fun y a ha => ?_, F.owi, fun y d h5 h6 => ?_, fun y es h5 h6 => ?_⟩
  · obtain ⟨⟨v, o', ho', hd'⟩, q⟩ := F.cel y c hc
    exact ⟨⟨v, o', hs _ _ (h4 y c hc) ho', hd'⟩, q⟩
  · obtain ⟨⟨o', ho'⟩, q⟩ := F.own y a ha
    refine ⟨?_, q⟩
    by_cases ea : a = l
    · obtain ⟨o2, nn, q2, _⟩ := p
      exact ⟨o2, ea ▸ q2⟩
    · exact ⟨o', hs _ _ ea ho'⟩
  · rw [Sg.get_set] at h6
    split at h6
    · cases h6
    · obtain ⟨u, a, rr⟩ := F.sh y d h5 h6
      exact ⟨u, vk y u a, rr⟩
  · rw [Sg.get_set] at h6
    split at h6
    · rename_i ey; cases h6
      exact ⟨l, vs', by rw [ey]; exact hl, by rw [ey]; exact vk x _ va, p, z, r⟩
    · rename_i ey
      obtain ⟨a, vs, ha, va', ⟨o2, nn, q2, q3⟩, zz, rr⟩ := F.owv y es h5 h6
      exact ⟨a, vs, ha, vk y _ va', ⟨o2, nn, hs _ _ (fun ea => ey (F.owi y x l (ea ▸ ha) hl)) q2, q3⟩, zz, rr⟩
theorem Sg.get_frz (xs : List Str) : ∀ (σ : Sg) (y : Str), (σ.frz xs).get y = if y ∈ xs then (σ.get y).map Slot.froze else σ.get y
  | [], y => by simp [Sg.frz, Sg.get]
  | (z, v) :: r, y => by
    unfold Sg.frz
    have ih := Sg.get_frz xs r y
    by_cases h : z ∈ xs
    · rw [if_pos h]
      unfold Sg.get
      by_cases q : y = z
      · subst q; rw [if_pos rfl, if_pos rfl, if_pos h]; rfl
      · rw [if_neg q, if_neg q]; exact ih
    · rw [if_neg h]
      unfold Sg.get
      by_cases q : y = z
      · subst q; rw [if_pos rfl, if_pos rfl, if_neg h]
      · rw [if_neg q, if_neg q]; exact ih
open Classical in
/-- the frozen part with what stands at the addresses of S -/
noncomputable def frzPH (fz : PH) (h : Heap) (S : Addr → Prop) : PH := fun a => if S a then h.get? a else fz a
theorem FSim.frz (F : FSim kp fz₀ s₀ fz ow kd env σ s) (xs : List Str) : ∃ fz', PH.le fz fz' ∧ FSim kp fz₀ s₀ fz' (fun y => if y ∈ xs then none else ow y) kd env (σ.frz xs) s := by
  have hS : ∀ a, (∃ x, x ∈ xs ∧ ow x = some a) → kp a = none ∧ fz a = none ∧ a ≠ env.locals ∧ (∀ y c, env.cells.lookup y = some c → c ≠ a) := fun a ⟨x, _, hx⟩ => (F.own x a hx).2
  have le : PH.le fz (frzPH fz s.heap fun a => ∃ x, x ∈ xs ∧ ow x = some a) := fun a o q => by
    unfold frzPH
    split
    · rename_i h; rw [(hS a h).2.1] at q; cases q
    · exact q
  have at_ : ∀ x a, x ∈ xs → ow x = some a → frzPH fz s.heap (fun a => ∃ x, x ∈ xs ∧ ow x = some a) a = s.heap.get? a := fun x a hx ha => by
    unfold frzPH; rw [if_pos ⟨x, hx, ha⟩]
  have off : ∀ a, ¬ (∃ x, x ∈ xs ∧ ow x = some a) → frzPH fz s.heap (fun a => ∃ x, x ∈ xs ∧ ow x = some a) a = fz a := fun a h => by
    unfold frzPH; rw [if_neg h]
  refine ⟨_, le, F.same, F.keep, F.le.trans le, fun a o q => ?_, fun a o q => ?_, F.loc, ⟨F.locn.1, ?_⟩, fun x c hc => ?_, F.celi, fun x a ha => ?_, fun x y a hx hy => ?_, fun x d h1 h2 => ?_, fun x ds h1 h2 => ?_⟩
  · unfold frzPH at q
    split at q
    · exact q
    · exact F.sub a o q
  · by_cases h : ∃ x, x ∈ xs ∧ ow x = some a
    · exact .inr (hS a h).1
    · rw [off a h] at q; exact F.new a o q
  · rw [off _ fun h => (hS _ h).2.2.1 rfl]; exact F.locn.2
  · obtain ⟨h1, h2, h3, h4⟩ := F.cel x c hc
    refine ⟨h1, h2, ?_, h4⟩
    rw [off _ fun h => (hS _ h).2.2.2 x c hc rfl]; exact h3
  · split at ha
    · cases ha
    · rename_i hx
      obtain ⟨h0, h1, h2, h3⟩ := F.own x a ha
      refine ⟨h0, h1, ?_, h3⟩
      rw [off]
      · exact h2
      · rintro ⟨y, hy, hya⟩
        exact hx (F.owi x y a ha hya ▸ hy)
  · split at hx
    · cases hx
    · split at hy
      · cases hy
      · exact F.owi x y a hx hy
  · rw [Sg.get_frz] at h2
    split at h2
    · rename_i hx
      cases q : σ.get x with
      | none => rw [q] at h2; cases h2
      | some sl =>
        rw [q] at h2
        cases sl with
        | sh d' => cases h2; obtain ⟨v, a, r⟩ := F.sh x _ h1 q; exact ⟨v, a, r.mono le⟩
        | own ds =>
          cases h2
          obtain ⟨a, vs, ha, va, ⟨o, nn, ho, hc, _, hd⟩, z, r⟩ := F.owv x ds h1 q
          exact ⟨_, va, .list ((at_ x a hx ha).trans ho) hc hd z (r.mono le)⟩
    · obtain ⟨v, a, r⟩ := F.sh x d h1 h2
      exact ⟨v, a, r.mono le⟩
  · rw [Sg.get_frz] at h2
    split at h2
    · cases q : σ.get x with
      | none => rw [q] at h2; cases h2
      | some sl =>
        rw [q] at h2
        cases sl <;> cases h2
    · rename_i hx
      obtain ⟨a, vs, ha, va, p, z, r⟩ := F.owv x ds h1 h2
      exact ⟨a, vs, by rw [if_neg hx]; exact ha, va, p, z, r.mono le⟩
theorem FSim.weaken {kp' fz₁ : PH} (F : FSim kp' fz₁ s₀ fz ow kd env σ s) (h1 : PH.le kp kp') (h2 : PH.le fz₀ fz₁) (h3 : ∀ a o, fz₁ a = some o → fz₀ a = some o ∨ kp a = none) : FSim kp fz₀ s₀ fz ow kd env σ s := by
  have dn : ∀ a, kp' a = none → kp a = none := fun a q => by
    cases r : kp a with
    | none => rfl
    | some o => rw [h1 a o r] at q; cases q
  refine ⟨F.same, fun a o q => F.keep a o (h1 a o q), h2.trans F.le, F.sub, fun a o q => ?_, F.loc, ⟨dn _ F.locn.1, F.locn.2⟩, fun x c hc => ?_, F.celi, fun x a ha => ?_, F.owi, F.sh, F.owv⟩
  · rcases F.new a o q with x | x
    · exact h3 a o x
    · exact .inr (dn a x)
  · obtain ⟨q1, q2, q3⟩ := F.cel x c hc
    exact ⟨q1, dn _ q2, q3⟩
  · obtain ⟨q1, q2, q3⟩ := F.own x a ha
    exact ⟨q1, dn _ q2, q3⟩
end
end Mine
end
section
open PySem PySem.W PyProof.Rows PySem.Spec PySem.Calls
namespace Mine
noncomputable def FQ (kp fz₀ : PH) (s₀ : Shared) (kd : KD) (env : Env) (k : Fl → Sg → Prop) (Q : Flow → Shared → Prop) : Prop :=
  (∀ fz ow σ s, FSim kp fz₀ s₀ fz ow kd env σ s → k .nxt σ → Q .next s) ∧
  (∀ fz ow σ s v d, FSim kp fz₀ s₀ fz ow kd env σ s → Rd fz v d → k (.ret d) σ → Q (.ret v) s)
section
variable (prog : Program) (w : World) (hB : Heap) (n : Nat) (kd : KD)
noncomputable def SoundS (S : Stmt → Sg → (Fl → Sg → Prop) → Prop) : Prop :=
  ∀ (st : Stmt) (σ : Sg) (k : Fl → Sg → Prop) (A : Around) (env : Env) (kp fz₀ : PH) (s₀ : Shared) (fz : PH) (ow : Str → Option Addr) (s : Shared) (Q : Flow → Shared → Prop) (E : Value → Shared → Prop),
    S st σ k → AOK (n + 1) A → EnvOK kd env → (∀ a o, hB.get? a = some o → fz₀ a = some o) → FSim kp fz₀ s₀ fz ow kd env σ s → FQ kp fz₀ s₀ kd env k Q → wpAny (model prog w) A (exec st env) Q E s
end
section
variable {prog : Program} {w : World} {hB : Heap} {n : Nat} {kd : KD} {A : Around} {env : Env} {kp fz₀ : PH} {s₀ : Shared} {E : Value → Shared → Prop}
variable {S : Stmt → Sg → (Fl → Sg → Prop) → Prop}
theorem sems_sound (hS : SoundS prog w hB n kd S) (a : AOK (n + 1) A) (ok : EnvOK kd env) (hb : ∀ a o, hB.get? a = some o → fz₀ a = some o) :
    ∀ {l : List Stmt} {σ : Sg} {k : Fl → Sg → Prop} {fz : PH} {ow : Str → Option Addr} {s : Shared} {Q : Flow → Shared → Prop}, wpSs S l σ k → FSim kp fz₀ s₀ fz ow kd env σ s → FQ kp fz₀ s₀ kd env k Q → wpAny (model prog w) A (execs l env) Q E s
  | [], σ, k, fz, ow, s, Q, h, F, hQ => wpAny_execs_nil (hQ.1 _ _ _ _ F h)
  | st :: r, σ, k, fz, ow, s, Q, h, F, hQ => by
    refine wpAny_execs_cons (hS _ _ _ _ _ _ _ _ _ _ _ _ _ h a ok hb F ⟨fun fz' ow' σ' s' F' hk => ?_, fun fz' ow' σ' s' v d F' rd hk => ?_⟩)
    · exact sems_sound hS a ok hb hk F' hQ
    · exact hQ.2 _ _ _ _ _ _ F' rd hk
/-- what a value that is to be stored is -/
noncomputable def SlotRd (fz : PH) (s₁ : Shared) (h : Heap) (v : Value) : Slot → Prop
  | .sh d => Rd fz v d
  | .own ds => ∃ l vs, v = .ref l ∧ PlainL h l vs ∧ vs.size ≤ 2 ^ 20 ∧ RdAll fz vs.toList ds ∧ fz l = none ∧ s₁.heap.get? l = none
theorem SlotRd.grow {fz fz' : PH} {s₁ s s' : Shared} {v : Value} {sl : Slot} (x : SlotRd fz s₁ s.heap v sl) (g : Grow fz s fz' s') : SlotRd fz' s₁ s'.heap v sl := by
  cases sl with
  | sh d => exact Rd.mono g.le x
  | own ds =>
    obtain ⟨l, vs, e, p, z, r, h1, h2⟩ := x
    refine ⟨l, vs, e, p.keeps g.ext, z, r.mono g.le, ?_, h2⟩
    obtain ⟨o, _, ho, _⟩ := p
    cases q : fz' l with
    | none => rfl
    | some o' =>
      rcases g.new l o' q with y | y
      · rw [h1] at y; cases y
      · rw [ho] at y; cases y
theorem SlotRd.back {fz : PH} {s₁ s₂ : Shared} {h : Heap} {v : Value} {sl : Slot} (x : SlotRd fz s₂ h v sl) (e : Ext s₁.heap s₂.heap) : SlotRd fz s₁ h v sl := by
  cases sl with
  | sh d => exact x
  | own ds =>
    obtain ⟨l, vs, e1, p, z, r, h1, h2⟩ := x
    exact ⟨l, vs, e1, p, z, r, h1, e.none h2⟩
variable {R : Rec} {σ : Sg} {fz : PH} {s : Shared}
theorem val_sound (SR : SoundR prog w hB n R) {e : Expr} {k : Slot → Prop} {Q : Value → Shared → Prop} (hk : wpVal R kd e σ k) (a : AOK (n + 1) A) (ok : EnvOK kd env) (st : St hB fz s) (r : Rel fz kd env σ s.heap)
    (hQ : ∀ v sl fz' s', Grow fz s fz' s' → SlotRd fz' s s'.heap v sl → k sl → Q v s') : wpAny (model prog w) A (eval e env) Q E s := by
  have own : ∀ (l : Addr) (vs : Array Value) (ds : List PyData) fz' s', Grow fz s fz' s' → PlainL s'.heap l vs → vs.size ≤ 2 ^ 20 → RdAll fz' vs.toList ds → fz' l = none → s.heap.get? l = none → k (.own ds) → Q (.ref l) s' := fun l vs ds fz' s' g p z rd h1 h2 hk => by
    have sl : SlotRd fz' s s'.heap (.ref l) (.own ds) := ⟨l, vs, rfl, p, z, rd, h1, h2⟩
    exact hQ _ _ _ _ g sl hk
  unfold wpVal at hk
  split at hk
  · refine list_made SR hk.1 hk.2 a ok st r fun l vs ds fz' s' g hn hn' ho rds h30 hk => own l vs.toArray ds fz' s' g ⟨_, 0, ho, rfl, rfl, rfl⟩ ?_ rds hn hn' hk
    have := rds.length
    rw [List.size_toArray]; (first | lia | omega)
  · obtain ⟨h30, hk⟩ := hk
    refine wpAny_BinOp (list_made SR h30 hk a ok st r fun l vs ds fz1 s1 g1 hn hn' ho rds h30' hk => ?_)
    have st1 := st.grow g1
    refine SR.e _ _ _ _ _ _ _ _ _ _ hk a ok st1 (r.grow g1) fun vb db fz2 s2 g2 rb hk => ?_
    cases rb <;> first | exact hk.elim | skip
    rename_i x u
    obtain ⟨hx, hlo, hk⟩ := hk
    have st2 := st1.grow g2
    refine bin_list_mul0 st2 (g2.ext _ _ ho) (rds.mono g2.le) h30' hx hlo fun zs hz hr => ?_
    have hn2 : s2.heap.get? s2.heap.objs.size = none := Heap.get?_none_of_le (Nat.le_refl _)
    have g3 := Grow.keep (tk := s2.toks) (h := s2.heap.push { cls := .type "list", data := .seq zs }) st2.sub (fun b o e => Heap.get?_push_of_some _ e)
    exact own _ zs _ fz2 _ ((g1.trans g2).trans g3) ⟨_, 0, Heap.get?_push_size _ rfl, rfl, rfl, rfl⟩ hz hr (PH.none_of st2.sub hn2) ((g1.trans g2).ext.none hn2) hk
  · exact SR.e _ _ _ _ _ _ _ _ _ _ hk a ok st r fun v d fz' s' g rd hk => hQ v (.sh d) _ _ g rd hk
/-- several values, each list of its own apart from the rest -/
inductive SlotAll (fz : PH) (s₁ : Shared) (h : Heap) : List Value → List Slot → Prop
  | nil : SlotAll fz s₁ h [] []
  | cons {v : Value} {vs : List Value} {sl : Slot} {sls : List Slot} : SlotRd fz s₁ h v sl → SlotAll fz s₁ h vs sls → (∀ (l : Addr) (ds : List PyData), v = Value.ref l → sl = Slot.own ds → ∀ (k : Nat) (u : Value) (es : List PyData), vs[k]? = some u → sls[k]? = some (Slot.own es) → u ≠ Value.ref l) → SlotAll fz s₁ h (v :: vs) (sl :: sls)
theorem SlotAll.back {s₁ s₂ : Shared} {h : Heap} {vs : List Value} {sls : List Slot} (x : SlotAll fz s₂ h vs sls) (e : Ext s₁.heap s₂.heap) : SlotAll fz s₁ h vs sls := by
  induction x with
  | nil => exact .nil
  | cons a _ c ih => exact .cons (a.back e) ih c
theorem SlotAll.grow {fz' : PH} {s₁ s s' : Shared} {vs : List Value} {sls : List Slot} (x : SlotAll fz s₁ s.heap vs sls) (g : Grow fz s fz' s') : SlotAll fz' s₁ s'.heap vs sls := by
  induction x with
  | nil => exact .nil
  | cons a _ c ih => exact .cons (a.grow g) ih c
theorem SlotAll.at {s₁ : Shared} {h : Heap} {vs : List Value} {sls : List Slot} (x : SlotAll fz s₁ h vs sls) : ∀ {k : Nat} {u : Value} {sl : Slot}, vs[k]? = some u → sls[k]? = some sl → SlotRd fz s₁ h u sl := by
  induction x with
  | nil => intro k u sl h; simp at h
  | cons a _ c ih =>
    intro k u sl h1 h2
    cases k with
    | zero => simp at h1 h2; subst h1 h2; exact a
    | succ k => simp at h1 h2; exact ih h1 h2
theorem SlotAll.length {s₁ : Shared} {h : Heap} {vs : List Value} {sls : List Slot} (x : SlotAll fz s₁ h vs sls) : vs.length = sls.length := by
  induction x with
  | nil => rfl
  | cons a _ c ih => simp [ih]
theorem vals1_sound (SR : SoundR prog w hB n R) {pos : Pos} : ∀ {es : List Expr} {k : List Slot → Prop} {s : Shared} {fz : PH} {Q : List Value → Shared → Prop}, es.all notStar = true → wpVals1 R kd es σ k → AOK (n + 1) A → EnvOK kd env → St hB fz s → Rel fz kd env σ s.heap →
    (∀ vs sls fz' s', Grow fz s fz' s' → SlotAll fz' s s'.heap vs sls → sls.length = es.length → k sls → Q vs s') → wpAny (model prog w) A (spliced (backTo pos (starEach es env))) Q E s
  | [], k, s, fz, Q, _, h, a, ok, st, r, hQ => spliced_nil (hQ _ _ _ _ (Grow.refl st.sub) .nil rfl h)
  | e :: es, k, s, fz, Q, ns, h, a, ok, st, r, hQ => by
    simp only [List.all_cons, Bool.and_eq_true] at ns
    rw [starEach_cons ns.1]
    show wpAny _ _ (spliced ((false, eval e env) :: backTo pos (starEach es env))) Q E s
    refine spliced_cons (val_sound SR h a ok st r fun v sl fz' s' g rd hk => ?_)
    refine vals1_sound SR ns.2 hk a ok (st.grow g) (r.grow g) fun vs sls fz'' s'' g' rds hl hk' => hQ _ _ _ _ (g.trans g') (.cons (rd.grow g') (rds.back g.ext) ?_) (by rw [List.length_cons, hl, List.length_cons]) hk'
    rintro l ds rfl rfl k u es' hu hes rfl
    obtain ⟨l1, vs1, e1, p1, _⟩ := rd
    cases e1
    obtain ⟨l2, vs2, e2, p2, _, _, _, hn⟩ := rds.at hu hes
    cases e2
    obtain ⟨o, _, ho, _⟩ := p1
    rw [ho] at hn; cases hn
end
end Mine
end
section
open PySem PySem.W PyProof.Rows PySem.Spec PySem.Calls
namespace Mine
theorem filterMap_names {f : Expr → Option Str} (hf : ∀ e x, f e = some x → ∃ p, e = .Name x p) : ∀ {ts : List Expr}, (ts.filterMap f).length = ts.length → ts.filterMap f = namesOf ts
  | [], _ => rfl
  | t :: r, h => by
    cases q : f t with
    | none =>
      rw [List.filterMap_cons, q] at h
      have := List.length_filterMap_le f r
      simp only [List.length_cons] at h
      omega
    | some x =>
      obtain ⟨p, rfl⟩ := hf t x q
      rw [List.filterMap_cons, q] at h ⊢
      simp only [List.length_cons, Nat.add_right_cancel_iff] at h
      show x :: _ = x :: _
      rw [filterMap_names hf h]
theorem blockKind_fn {env : Env} (h : env.scope.kind = .function) : env.blockKind = .function := by
  unfold Env.blockKind
  rw [h]; rfl
theorem swapped_cases {kd : KD} {env : Env} {ts es : List Expr} {k k' : Nat} {p p' : Pos} (ok : EnvOK kd env) (hc : es.all (constantsAlone 8) = false) :
    swappedStores [.Tuple ts k p] (.Tuple es k' p') env = pure none ∨ swappedStores [.Tuple ts k p] (.Tuple es k' p') env = pure (some (namesOf ts)) := by
  unfold swappedStores
  dsimp only
  split
  · exact .inl rfl
  · split
    · exact .inl rfl
    · split
      · exact .inl rfl
      · rename_i h
        split
        · exact .inl rfl
        · rw [hc]
          right
          simp only [Bool.false_eq_true, if_false]
          rw [filterMap_names]
          · intro e x hx
            split at hx
            · split at hx
              · cases hx; exact ⟨_, rfl⟩
              · cases hx
            · cases hx
          · simp only [Bool.or_eq_true, not_or, bne_iff_ne, ne_eq, Decidable.not_not] at h
            exact h.1
/-- the stores of several names, in their order -/
noncomputable def setN : List Str → List Slot → Sg → Sg
  | x :: xs, v :: vs, σ => setN xs vs (σ.set x v)
  | _, _, σ => σ
theorem setN_get_off : ∀ {xs : List Str} {vs : List Slot} {σ : Sg} {y : Str}, y ∉ xs → (setN xs vs σ).get y = σ.get y
  | [], _, σ, y, _ => by cases ‹List Slot› <;> rfl
  | x :: xs, [], σ, y, _ => rfl
  | x :: xs, v :: vs, σ, y, h => by
    simp only [List.mem_cons, not_or] at h
    show (setN xs vs (σ.set x v)).get y = _
    rw [setN_get_off h.2, Sg.get_set, if_neg h.1]
theorem setN_get_at : ∀ {xs : List Str} {vs : List Slot} {σ : Sg} {i : Nat} {y : Str} {v : Slot}, xs.Nodup → xs[i]? = some y → vs[i]? = some v → (setN xs vs σ).get y = some v
  | [], _, σ, i, y, v, _, h, _ => by simp at h
  | x :: xs, [], σ, i, y, v, _, _, h => by simp at h
  | x :: xs, u :: vs, σ, i, y, v, hn, h1, h2 => by
    obtain ⟨hx, hn⟩ := List.nodup_cons.mp hn
    show (setN xs vs (σ.set x u)).get y = _
    cases i with
    | zero =>
      simp at h1 h2
      subst h1 h2
      rw [setN_get_off hx, Sg.get_set, if_pos rfl]
    | succ i => simp at h1 h2; exact setN_get_at hn h1 h2
theorem setN_rev {xs : List Str} {vs : List Slot} {σ : Sg} (hn : xs.Nodup) (hl : xs.length = vs.length) (y : Str) : (setN xs.reverse vs.reverse σ).get y = (setN xs vs σ).get y := by
  by_cases h : y ∈ xs
  · obtain ⟨i, hi, rfl⟩ := List.mem_iff_getElem.mp h
    have hi' : i < vs.length := by omega
    rw [setN_get_at hn (List.getElem?_eq_getElem hi) (List.getElem?_eq_getElem hi')]
    refine setN_get_at (i := xs.length - 1 - i) (by rw [List.Nodup, List.pairwise_reverse]; exact hn.imp Ne.symm) ?_ ?_
    · rw [List.getElem?_reverse (by omega), show xs.length - 1 - (xs.length - 1 - i) = i by omega, List.getElem?_eq_getElem hi]
    · rw [List.getElem?_reverse (by omega), show vs.length - 1 - (xs.length - 1 - i) = i by omega, List.getElem?_eq_getElem hi']
  · rw [setN_get_off h, setN_get_off (by simpa using h)]
theorem setAll_eq {kd : KD} : ∀ {ts : List Expr} {vs : List Slot} {σ σ' : Sg}, setAll kd ts vs σ = some σ' → σ' = setN (namesOf ts) vs σ ∧ (namesOf ts).length = vs.length ∧ (namesOf ts).length = ts.length ∧ (∀ x ∈ namesOf ts, canStore kd x = true)
  | [], [], σ, σ', h => by cases h; exact ⟨rfl, rfl, rfl, fun _ h => nomatch h⟩
  | [], _ :: _, σ, σ', h => by cases h
  | t :: ts, [], σ, σ', h => by cases t <;> cases h
  | t :: ts, v :: vs, σ, σ', h => by
    cases t with
    | Name x p =>
      have h : (if canStore kd x then setAll kd ts vs (σ.set x v) else none) = some σ' := h
      split at h
      · rename_i hc
        obtain ⟨h1, h2, h3, h4⟩ := setAll_eq h
        refine ⟨h1, by simp [namesOf, h2], by simp [namesOf, h3], fun y hy => ?_⟩
        rcases List.mem_cons.mp hy with rfl | hy
        · exact hc
        · exact h4 y hy
      · cases h
    | _ => cases h
section
variable {prog : Program} {w : World} {hB : Heap} {n : Nat} {kd : KD} {A : Around} {env : Env} {kp fz₀ : PH} {s₀ : Shared} {E : Value → Shared → Prop}
theorem FSim.congr {fz : PH} {ow : Str → Option Addr} {σ σ' : Sg} {s : Shared} (F : FSim kp fz₀ s₀ fz ow kd env σ s) (h : ∀ y, σ.get y = σ'.get y) : FSim kp fz₀ s₀ fz ow kd env σ' s :=
  ⟨F.same, F.keep, F.le, F.sub, F.new, F.loc, F.locn, F.cel, F.celi, F.own, F.owi, fun x d h1 h2 => F.sh x d h1 ((h x).trans h2), fun x ds h1 h2 => F.owv x ds h1 ((h x).trans h2)⟩
/-- a list that no name of the frame holds -/
structure FreeL (kp : PH) (env : Env) (ow : Str → Option Addr) (l : Addr) : Prop where
  kp : kp l = none
  loc : l ≠ env.locals
  cel : ∀ z c, env.cells.lookup z = some c → c ≠ l
  own : ∀ y, ow y ≠ some l
theorem FSim.free {fz : PH} {ow : Str → Option Addr} {σ : Sg} {s : Shared} (F : FSim kp fz₀ s₀ fz ow kd env σ s) {l : Addr} (h : s.heap.get? l = none) : FreeL kp env ow l := by
  refine ⟨?_, fun e => ?_, fun z c hc e => ?_, fun y hy => ?_⟩
  · cases q : kp l with
    | none => rfl
    | some o => rw [F.keep _ _ q] at h; cases h
  · obtain ⟨m, o, _, _, ho, _⟩ := F.loc
    rw [e, ho] at h; cases h
  · obtain ⟨⟨v, o, ho, _⟩, _⟩ := F.cel z c hc
    rw [← e, ho] at h; cases h
  · obtain ⟨⟨o, ho⟩, _⟩ := F.own y l hy
    rw [ho] at h; cases h
theorem SlotAll.heap {fz : PH} {s₁ : Shared} {h h' : Heap} {vs : List Value} {sls : List Slot} (x : SlotAll fz s₁ h vs sls) : (∀ (k : Nat) (l : Addr) (ds : List PyData), vs[k]? = some (Value.ref l) → sls[k]? = some (Slot.own ds) → ∀ o, h.get? l = some o → h'.get? l = some o) → SlotAll fz s₁ h' vs sls := by
  induction x with
  | nil => exact fun _ => .nil
  | @cons v vs sl sls a b c ih =>
    intro hk
    refine .cons ?_ (ih fun k l ds q1 q2 => hk (k + 1) l ds (by simpa using q1) (by simpa using q2)) c
    cases sl with
    | sh d => exact a
    | own ds =>
      obtain ⟨l, ws, rfl, ⟨o, nn, ho, r⟩, q⟩ := a
      exact ⟨l, ws, rfl, ⟨o, nn, hk 0 l ds rfl rfl o ho, r⟩, q⟩
theorem stores_sound (ok : EnvOK kd env) {s₁ : Shared} : ∀ {names : List Str} {fs : List (Value → Sem Unit)} {vs : List Value} {sls : List Slot} {σ : Sg} {fz : PH} {ow : Str → Option Addr} {s : Shared} {Q : Unit → Shared → Prop},
    names.length = fs.length → names.length = sls.length → (∀ (i : Nat) (x : Str) (f : Value → Sem Unit), names[i]? = some x → fs[i]? = some f → ∀ (v : Value) (Q : Unit → Shared → Prop) (s : Shared), wpAny (model prog w) A (storeName env x v) Q E s → wpAny (model prog w) A (f v) Q E s) →
    (∀ x ∈ names, canStore kd x = true) → FSim kp fz₀ s₀ fz ow kd env σ s → SlotAll fz s₁ s.heap vs sls →
    (∀ (k : Nat) (l : Addr) (ds : List PyData), vs[k]? = some (Value.ref l) → sls[k]? = some (Slot.own ds) → FreeL kp env ow l) →
    (∀ ow' s', FSim kp fz₀ s₀ fz ow' kd env (setN names sls σ) s' → Q () s') → wpAny (model prog w) A (assignInOrder fs vs) Q E s
  | [], fs, vs, sls, σ, fz, ow, s, Q, h1, h2, hf, hc, F, hS, hfree, hQ => by
    have e : fs = [] := List.eq_nil_of_length_eq_zero h1.symm
    subst e
    refine assignInOrder_nil (hQ ow s ?_)
    cases sls <;> exact F
  | x :: names, fs, vs, sls, σ, fz, ow, s, Q, h1, h2, hf, hc, F, hS, hfree, hQ => by
    obtain ⟨f, fs, rfl⟩ : ∃ f r, fs = f :: r := by cases fs with
      | nil => simp at h1
      | cons f r => exact ⟨f, r, rfl⟩
    cases hS with
    | nil => simp at h2
    | @cons v vs sl sls hv hvs hap =>
      have hx := hc x List.mem_cons_self
      have hrest : ∀ (i : Nat) (y : Str) (g : Value → Sem Unit), names[i]? = some y → fs[i]? = some g → ∀ (v : Value) (Q : Unit → Shared → Prop) (s : Shared), wpAny (model prog w) A (storeName env y v) Q E s → wpAny (model prog w) A (g v) Q E s := fun i y g hy hg => hf (i + 1) y g (by simpa using hy) (by simpa using hg)
      have hfr : ∀ (k : Nat) (l : Addr) (ds : List PyData), vs[k]? = some (Value.ref l) → sls[k]? = some (Slot.own ds) → FreeL kp env ow l := fun k l ds a b => hfree (k + 1) l ds (by simpa using a) (by simpa using b)
      have keepS : ∀ s' : Shared, (∀ b o, b ≠ env.locals → (∀ z c, env.cells.lookup z = some c → c ≠ b) → s.heap.get? b = some o → s'.heap.get? b = some o) → SlotAll fz s₁ s'.heap vs sls :=
        fun s' hk => hvs.heap fun k l ds q1 q2 o ho => hk l o (hfr k l ds q1 q2).loc (hfr k l ds q1 q2).cel ho
      refine assignInOrder_cons (hf 0 x f rfl rfl v _ s ?_)
      cases sl with
      | sh d =>
        refine store_sh hx ok F hv fun s' F' _ hk => ?_
        refine stores_sound ok (by simpa using h1) (by simpa using h2) hrest (fun y hy => hc y (.tail _ hy)) F' (keepS s' hk) (fun k l ds q1 q2 => ?_) hQ
        have fr := hfr k l ds q1 q2
        refine ⟨fr.kp, fr.loc, fr.cel, fun y hy => ?_⟩
        unfold owNo at hy
        split at hy
        · cases hy
        · exact fr.own y hy
      | own ds =>
        obtain ⟨l, ws, rfl, p, z, r, hn, hn'⟩ := hv
        have fr := hfree 0 l ds rfl rfl
        refine store_own hx ok F hn fr.kp fr.loc fr.cel fr.own p z r fun s' F' _ hk => ?_
        refine stores_sound ok (by simpa using h1) (by simpa using h2) hrest (fun y hy => hc y (.tail _ hy)) F' (keepS s' hk) (fun k l' ds' q1 q2 => ?_) hQ
        have fr' := hfr k l' ds' q1 q2
        refine ⟨fr'.kp, fr'.loc, fr'.cel, fun y hy => ?_⟩
        unfold owTo at hy
        split at hy
        · cases hy
          exact hap l ds rfl rfl k _ ds' q1 q2 rfl
        · exact fr'.own y hy
end
end Mine
end
section
open PySem PySem.W PyProof.Rows PySem.Spec PySem.Calls
namespace Mine
theorem SlotAll.apart {fz : PH} {s₁ : Shared} {h : Heap} {vs : List Value} {sls : List Slot} (x : SlotAll fz s₁ h vs sls) :
    ∀ (i j : Nat) (l : Addr) (ds es : List PyData), i ≠ j → vs[i]? = some (Value.ref l) → sls[i]? = some (Slot.own ds) → vs[j]? = some (Value.ref l) → sls[j]? = some (Slot.own es) → False := by
  induction x with
  | nil => intro i j l ds es _ h; simp at h
  | @cons v vs sl sls a b c ih =>
    intro i j l ds es hij h1 h2 h3 h4
    cases i with
    | zero =>
      cases j with
      | zero => exact hij rfl
      | succ j => simp at h1 h2 h3 h4; exact c l ds h1 h2 j _ es h3 h4 rfl
    | succ i =>
      cases j with
      | zero => simp at h1 h2 h3 h4; exact c l es h3 h4 i _ ds h1 h2 rfl
      | succ j => simp at h1 h2 h3 h4; exact ih i j l ds es (by (first | lia | omega)) h1 h2 h3 h4
theorem SlotAll.of {fz : PH} {s₁ : Shared} {h : Heap} : ∀ {vs : List Value} {sls : List Slot}, vs.length = sls.length → (∀ (k : Nat) (u : Value) (sl : Slot), vs[k]? = some u → sls[k]? = some sl → SlotRd fz s₁ h u sl) →
    (∀ (i j : Nat) (l : Addr) (ds es : List PyData), i ≠ j → vs[i]? = some (Value.ref l) → sls[i]? = some (Slot.own ds) → vs[j]? = some (Value.ref l) → sls[j]? = some (Slot.own es) → False) → SlotAll fz s₁ h vs sls
  | [], [], _, _, _ => .nil
  | [], _ :: _, h, _, _ => by simp at h
  | _ :: _, [], h, _, _ => by simp at h
  | v :: vs, sl :: sls, hl, h1, h2 => by
    refine .cons (h1 0 v sl rfl rfl) (SlotAll.of (by simpa using hl) (fun k u sl a b => h1 (k + 1) u sl (by simpa using a) (by simpa using b)) fun i j l ds es hij a b c d => h2 (i + 1) (j + 1) l ds es (by (first | lia | omega)) (by simpa using a) (by simpa using b) (by simpa using c) (by simpa using d)) ?_
    rintro l ds rfl rfl k u es hu hes rfl
    exact h2 0 (k + 1) l ds es (by (first | lia | omega)) rfl rfl (by simpa using hu) (by simpa using hes)
theorem SlotAll.rev {fz : PH} {s₁ : Shared} {h : Heap} {vs : List Value} {sls : List Slot} (x : SlotAll fz s₁ h vs sls) : SlotAll fz s₁ h vs.reverse sls.reverse := by
  have e := x.length
  have key : ∀ {α : Type} (l : List α) (k : Nat) (a : α), l.reverse[k]? = some a → k < l.length ∧ l[l.length - 1 - k]? = some a := fun l k a h => by
    have hk : k < l.length := by have := (List.getElem?_eq_some_iff.mp h).1; simpa using this
    rw [List.getElem?_reverse hk] at h
    exact ⟨hk, h⟩
  refine SlotAll.of (by simp [e]) (fun k u sl a b => ?_) fun i j l ds es hij a b c d => ?_
  · obtain ⟨_, a⟩ := key _ _ _ a
    obtain ⟨_, b⟩ := key _ _ _ b
    rw [← e] at b
    exact x.at a b
  · obtain ⟨hi, a⟩ := key _ _ _ a
    obtain ⟨_, b⟩ := key _ _ _ b
    obtain ⟨hj, c⟩ := key _ _ _ c
    obtain ⟨_, d⟩ := key _ _ _ d
    rw [← e] at b d
    exact x.apart _ _ l ds es (by (first | lia | omega)) a b c d
theorem assignEach_names {env : Env} : ∀ {ts : List Expr}, (namesOf ts).length = ts.length →
    (assignEach ts env).length = ts.length ∧ (assignEach ts env).findIdx? (·.1) = none ∧ ∀ (i : Nat) (x : Str) (f : Value → Sem Unit), (namesOf ts)[i]? = some x → ((assignEach ts env).map (·.2))[i]? = some f → ∃ p, f = assign (.Name x p) env
  | [], _ => ⟨rfl, rfl, fun i x f h => by simp [namesOf] at h⟩
  | t :: ts, h => by
    have len : ∀ (ts : List Expr), (namesOf ts).length ≤ ts.length := by
      intro ts
      induction ts with
      | nil => exact Nat.le_refl _
      | cons t r ih =>
        have h1 : (namesOf r).length ≤ (t :: r).length := Nat.le_succ_of_le ih
        cases t with
        | Name x p => exact Nat.succ_le_succ ih
        | _ => exact h1
    have key : (namesOf ts).length ≠ ts.length + 1 := fun e => absurd (len ts) (by rw [e]; exact Nat.not_succ_le_self _)
    cases t with
    | Name y p =>
      obtain ⟨h1, h2, h3⟩ := assignEach_names (env := env) (ts := ts) (by simpa [namesOf] using h)
      have e : assignEach (.Name y p :: ts) env = (false, assign (.Name y p) env) :: assignEach ts env := rfl
      refine ⟨by rw [e]; simp [h1], by rw [e, List.findIdx?_cons]; simp [h2], fun i x f ha hb => ?_⟩
      cases i with
      | zero =>
        simp [namesOf] at ha
        rw [e] at hb
        simp at hb
        exact ⟨p, by rw [← hb, ha]⟩
      | succ i =>
        rw [e] at hb
        simp [namesOf] at ha
        simp at hb
        exact h3 i x f ha (by simpa using hb)
    | _ => exact absurd h key
section
variable {prog : Program} {w : World} {hB : Heap} {n : Nat} {kd : KD} {A : Around} {env : Env} {kp fz₀ : PH} {s₀ : Shared} {E : Value → Shared → Prop}
variable {R : Rec} {σ : Sg} {fz : PH} {ow : Str → Option Addr} {s : Shared} {k : Fl → Sg → Prop} {Q : Flow → Shared → Prop}
theorem assign_par (SR : SoundR prog w hB n R) {ts es : List Expr} {kk kk' : Nat} {p p' pos : Pos} (h30 : ts.length ≤ 20) (hlen : ts.length = es.length) (hc : es.all (constantsAlone 8) = false) (hd : dupFree ts = true)
    (hk : wpVals R kd es σ fun vs => ∃ σ', setAll kd ts vs σ = some σ' ∧ k .nxt σ') (a : AOK (n + 1) A) (ok : EnvOK kd env) (hb : ∀ a o, hB.get? a = some o → fz₀ a = some o) (F : FSim kp fz₀ s₀ fz ow kd env σ s) (hQ : FQ kp fz₀ s₀ kd env k Q) :
    wpAny (model prog w) A (exec (.Assign [.Tuple ts kk p] (.Tuple es kk' p') pos) env) Q E s := by
  rw [exec_Assign]
  refine wpAny_bind (wpAny_standAt ?_)
  rw [show swapsWithSole [.Tuple ts kk p] (.Tuple es kk' p') pos.line env = pure false from rfl]
  refine wpAny_bind (wpAny_pure ?_)
  simp only [Bool.false_eq_true, if_false]
  refine wpAny_bind (Tuple_ (vals1_sound SR hk.1 hk.2 a ok (F.st hb) F.rel fun vs sls fz' s' g hS hl hk => ?_))
  obtain ⟨σ', hset, hk⟩ := hk
  obtain ⟨hσ, h1, h2, h3⟩ := setAll_eq hset
  have hvl := hS.length
  refine wpAny_newObj_type ?_ (by show vs.toArray.size ≤ sizeLine; rw [List.size_toArray, sizeLine_eq]; (first | lia | omega))
  generalize hT : s'.heap.objs.size = T
  have hTup : IsTup (s'.heap.push { cls := .type "tuple", data := .seq vs.toArray }) T vs.toArray := ⟨_, hT ▸ Heap.get?_push_size _ rfl, rfl, 0, rfl⟩
  have g1 : Grow fz s fz' { s' with heap := s'.heap.push { cls := .type "tuple", data := .seq vs.toArray } } := g.trans (Grow.keep (tk := s'.toks) g.sub fun b o e => Heap.get?_push_of_some _ e)
  have S1 : SlotAll fz' s (s'.heap.push { cls := .type "tuple", data := .seq vs.toArray }) vs sls := hS.heap fun _ l _ _ _ o ho => Heap.get?_push_of_some _ ho
  -- what is shown of both ways
  have fin : ∀ (names : List Str) (fs : List (Value → Sem Unit)) (us : List Value) (tl : List Slot) (s2 : Shared), (∃ h, s2 = { s' with heap := h } ∧ Ext (s'.heap.push { cls := .type "tuple", data := .seq vs.toArray }) h) →
      names.length = fs.length → names.length = tl.length → (∀ (i : Nat) (x : Str) (f : Value → Sem Unit), names[i]? = some x → fs[i]? = some f → ∀ (v : Value) (Q : Unit → Shared → Prop) (s : Shared), wpAny (model prog w) A (storeName env x v) Q E s → wpAny (model prog w) A (f v) Q E s) →
      (∀ x ∈ names, canStore kd x = true) → (∀ h, SlotAll fz' s h vs sls → SlotAll fz' s h us tl) → (∀ y, (setN names tl σ).get y = σ'.get y) → wpAny (model prog w) A (assignInOrder fs us) (fun _ s3 => Q .next s3) E s2 := by
    rintro names fs us tl s2 ⟨h, rfl, hE⟩ e1 e2 hf hcs hSS hget
    have g2 : Grow fz s fz' { s' with heap := h } := g1.trans (Grow.keep (tk := s'.toks) g1.sub hE)
    have F2 := F.grow g2
    have S2 := hSS h (S1.heap fun _ l _ _ _ o ho => hE _ _ ho)
    refine stores_sound ok e1 e2 hf hcs F2 S2 (fun k l ds q1 q2 => ?_) fun ow' s3 F3 => hQ.1 _ _ _ _ (F3.congr hget) hk
    obtain ⟨l', _, e, _, _, _, _, hn⟩ := S2.at q1 q2
    cases e
    exact F.free hn
  rcases swapped_cases (k := kk) (k' := kk') (p := p) (p' := p') (ts := ts) ok hc with q | q
  · rw [q]
    refine wpAny_bind (wpAny_pure ?_)
    show wpAny (model prog w) A (do assignAll (.ref T) [assign (.Tuple ts kk p) env]; pure Flow.next) Q E _
    refine wpAny_bind ?_
    obtain ⟨n1, n2, n3⟩ := assignEach_names (env := env) h2
    refine assign_Tuple_tuple a.hd hTup (by rw [n1, List.size_toArray]; (first | lia | omega)) n2 fun h he => ?_
    refine wpAny_mono (fin (namesOf ts) _ _ sls { s' with heap := h } ⟨h, rfl, fun b o e => he b o (fun r => by rw [r] at e; exact absurd (Heap.lt_size e) (Nat.lt_irrefl _)) e⟩ (by rw [List.length_map, n1, h2]) h1 (fun i x f hx hf v Q s h => ?_) h3 (fun _ h => h) fun y => by rw [hσ]) (fun _ s3 h => wpAny_pure h) fun _ _ x => x
    obtain ⟨p, rfl⟩ := n3 i x f hx hf
    exact wpAny_assign_Name h
  · rw [q]
    refine wpAny_bind (wpAny_pure ?_)
    show wpAny (model prog w) A (do
      rule "assign.swapped-stores"
      let items ← unpackItems (.ref T) (namesOf ts).length none
      assignInOrder ((namesOf ts).reverse.map fun n => bindName env n) items.reverse
      pure Flow.next) Q E _
    refine wpAny_bind (wpAny_rule (wpAny_bind ?_))
    rw [show (namesOf ts).length = vs.toArray.size by rw [List.size_toArray]; (first | lia | omega)]
    have hnd : (namesOf ts).Nodup := by
      unfold dupFree at hd
      simp only [Bool.and_eq_true, decide_eq_true_eq] at hd
      exact hd.1
    refine unpackItems_tuple a.hd hTup fun h he => ?_
    refine wpAny_bind (wpAny_mono (fin (namesOf ts).reverse _ vs.reverse sls.reverse { s' with heap := h } ⟨h, rfl, fun b o e => he b o (fun r => by rw [r] at e; exact absurd (Heap.lt_size e) (Nat.lt_irrefl _)) e⟩ (by rw [List.length_map]) (by simp [h1]) (fun i x f hx hf v Q s h => ?_) (fun x hx => h3 x (by simpa using hx)) (fun _ h => h.rev) fun y => by rw [hσ, setN_rev hnd h1]) (fun _ s3 h => wpAny_pure h) fun _ _ x => x)
    rw [List.getElem?_map, hx] at hf
    cases hf
    exact wpAny_bindName h
end
end Mine
end
section
open PySem PySem.W PyProof.Rows PySem.Spec PySem.Calls
namespace Mine
theorem VarAt.unique {h : Heap} {env : Env} {x : Str} {u v : Value} (a : VarAt h env x u) (b : VarAt h env x v) : u = v := by
  rcases a with ⟨k, m, n, hm⟩ | ⟨k, c, hc, i⟩
  · rcases b with ⟨k', m', n', hm'⟩ | ⟨k', _⟩
    · rw [Ns_unique n' n] at hm'
      rw [hm] at hm'; cases hm'; rfl
    · rw [k] at k'; rcases k' with k' | k' <;> cases k'
  · rcases b with ⟨k', _⟩ | ⟨k', c', hc', i'⟩
    · rw [k'] at k; rcases k with k | k <;> cases k
    · rw [hc] at hc'; cases hc'
      obtain ⟨o, ho, hd⟩ := i
      obtain ⟨o', ho', hd'⟩ := i'
      rw [ho] at ho'; cases ho'
      rw [hd] at hd'; cases hd'; rfl
section
variable {prog : Program} {w : World} {hB : Heap} {n : Nat} {kd : KD} {A : Around} {env : Env} {kp fz₀ : PH} {s₀ : Shared} {E : Value → Shared → Prop}
variable {R : Rec} {σ : Sg} {fz : PH} {ow : Str → Option Addr} {s : Shared} {k : Fl → Sg → Prop} {Q : Flow → Shared → Prop}
/-- an object that is nothing of the frame's may turn -/
theorem FSim.junk {C : Addr} {h' : Heap} {tk : Nat} (F : FSim kp fz₀ s₀ fz ow kd env σ s) (hf : fz C = none) (fr : FreeL kp env ow C) (hs : Heap.SameBut C s.heap h') : FSim kp fz₀ s₀ fz ow kd env σ { s with heap := h', toks := tk } := by
  obtain ⟨h, tk₀, e⟩ := F.same
  have k' := SameBut.ext hs
  obtain ⟨m, hm⟩ := F.loc
  have vk : ∀ y u, VarAt s.heap env y u → VarAt h' env y u := fun y u a => by
    rcases a with ⟨q, m', n', hm'⟩ | ⟨q, c, hc, i⟩
    · exact .inl ⟨q, m', n'.sameBut hs (Ne.symm fr.loc), hm'⟩
    · exact .inr ⟨q, c, hc, i.sameBut hs (fr.cel y c hc)⟩
  refine ⟨⟨h', tk, by rw [e]⟩, fun a o q => k' _ _ (fun r => by rw [r, fr.kp] at q; cases q) (F.keep a o q), F.le, fun a o q => k' _ _ (fun r => by rw [r, hf] at q; cases q) (F.sub a o q), F.new, ⟨m, hm.sameBut hs (Ne.symm fr.loc)⟩, F.locn, fun y c hc => ?_, F.celi, fun y a ha => ?_, F.owi, fun y d h5 h6 => ?_, fun y es h5 h6 => ?_⟩
  · obtain ⟨⟨v, i⟩, q⟩ := F.cel y c hc
    exact ⟨⟨v, i.sameBut hs (fr.cel y c hc)⟩, q⟩
  · obtain ⟨⟨o', ho'⟩, q⟩ := F.own y a ha
    exact ⟨⟨o', k' _ _ (fun r => fr.own y (r ▸ ha)) ho'⟩, q⟩
  · obtain ⟨u, a, rr⟩ := F.sh y d h5 h6
    exact ⟨u, vk y u a, rr⟩
  · obtain ⟨a, vs, ha, va', ⟨o2, nn, q2, q3⟩, zz, rr⟩ := F.owv y es h5 h6
    exact ⟨a, vs, ha, vk y _ va', ⟨o2, nn, k' _ _ (fun r => fr.own y (r ▸ ha)) q2, q3⟩, zz, rr⟩
theorem store_slot {x : Str} {v : Value} {sl : Slot} {s₁ : Shared} {QU : Unit → Shared → Prop} (hx : canStore kd x = true) (ok : EnvOK kd env) (F : FSim kp fz₀ s₀ fz ow kd env σ s) (hv : SlotRd fz s₁ s.heap v sl) (hfree : ∀ l, s₁.heap.get? l = none → FreeL kp env ow l)
    (hQ : ∀ ow' s', FSim kp fz₀ s₀ fz ow' kd env (σ.set x sl) s' → QU () s') : wpAny (model prog w) A (storeName env x v) QU E s := by
  cases sl with
  | sh d => exact store_sh hx ok F hv fun s' F' _ _ => hQ _ _ F'
  | own ds =>
    obtain ⟨l, vs, rfl, p, z, r, h1, h2⟩ := hv
    have fr := hfree l h2
    exact store_own hx ok F h1 fr.kp fr.loc fr.cel fr.own p z r fun s' F' _ _ => hQ _ _ F'
theorem swapsWith_plain {e : Expr} {t : Option Expr} {l : Nat} (h : notComp e = true) : swapsWith e t l env = pure false := by
  cases e <;> first | rfl | (simp [notComp] at h)
theorem assign_name (SR : SoundR prog w hB n R) {x : Str} {e : Expr} {p pos : Pos} (hx : canStore kd x = true) (hc : notComp e = true) (hk : wpVal R kd e σ fun v => k .nxt (σ.set x v)) (a : AOK (n + 1) A) (ok : EnvOK kd env)
    (hb : ∀ a o, hB.get? a = some o → fz₀ a = some o) (F : FSim kp fz₀ s₀ fz ow kd env σ s) (hQ : FQ kp fz₀ s₀ kd env k Q) : wpAny (model prog w) A (exec (.Assign [.Name x p] e pos) env) Q E s :=
  wpAny_Assign_Name (val_sound SR hk a ok (F.st hb) F.rel fun v sl fz' s' g hv hk => store_slot hx ok (F.grow g) hv (fun l hl => F.free hl) fun ow' s'' F' => hQ.1 _ _ _ _ F' hk) (swapsWith_plain hc)
theorem CompDone.grow {C D : Addr} {ys : List Value} {out : List PyData} {fz' : PH} {s' : Shared} {o : Obj} (d : CompDone fz s C D ys out fz' s') (hD : s'.heap.get? D = some o) : Grow fz s (PH.add fz' D o) s' := by
  refine ⟨d.same, d.ext, d.le.trans (PH.le_add d.Dn.1), fun b p q => ?_, fun b p q => ?_⟩
  · unfold PH.add at q
    split at q
    · rename_i eb; cases q; rw [eb]; exact hD
    · exact d.sub _ _ q
  · unfold PH.add at q
    split at q
    · rename_i eb; rw [eb]; exact .inr d.Dn.2
    · exact d.new _ _ q
theorem assign_comp (B : Base prog w hB) (SR : SoundR prog w hB n R) {x : Str} {elt target iter : Expr} {ifs : List Expr} {scope : Scope} {cpos p pos : Pos} (hx : canStore kd x = true) (hk : wpComp R kd elt target iter ifs scope σ fun d => k .nxt (σ.set x (.sh d)))
    (a : AOK (n + 1) A) (ok : EnvOK kd env) (hb : ∀ a o, hB.get? a = some o → fz₀ a = some o) (F : FSim kp fz₀ s₀ fz ow kd env σ s) (hQ : FQ kp fz₀ s₀ kd env k Q) :
    wpAny (model prog w) A (exec (.Assign [.Name x p] (.ListComp elt [⟨target, iter, ifs, 0⟩] scope cpos) pos) env) Q E s := by
  obtain ⟨b, hsw⟩ : ∃ b, swapsWith (.ListComp elt [⟨target, iter, ifs, 0⟩] scope cpos) (some (.Name x p)) pos.line env = pure b := ⟨_, rfl⟩
  cases b with
  | false => exact wpAny_Assign_Name (comp_sound B SR hk a ok (F.st hb) F.rel fun v d fz' s' g rd hk => store_sh hx ok (F.grow g) rd fun s'' F' _ _ => hQ.1 _ _ _ _ F' hk) hsw
  | true =>
    rw [exec_Assign_Name_used _ _ _ _ hsw]
    refine wpAny_bind (wpAny_standAt (wpAny_bind ?_))
    show wpAny _ A (do let _ ← comprehension (.ListComp elt [⟨target, iter, ifs, 0⟩] scope cpos) scope env _ (newList []) false (eval iter env) (some (assign (.Name x p) env))) _ _ s
    refine wpAny_bind (wpAny_mono (comp_core B SR hk a ok (F.st hb) F.rel (use := some (assign (.Name x p) env)) (Q := fun _ s' => Q .next s') fun C D ys out fz' s' d hk => ?_) (fun _ s' hq => wpAny_pure (wpAny_pure hq)) fun _ _ e => e)
    obtain ⟨o, nn, hD, cD, dD, sD⟩ := id d.Dl
    have g := d.grow hD
    have F' := F.grow g
    have frC := F.free d.Cn.2
    have rd : Rd (PH.add fz' D o) (.ref D) (.list out) := .list (PH.add_self ..) cD sD (by rw [List.size_toArray]; exact d.sz) (d.rd.mono (PH.le_add d.Dn.1))
    have hCf : PH.add fz' D o C = none := by unfold PH.add; rw [if_neg d.CD]; exact d.Cn.1
    refine wpAny_assign_Name (store_sh hx ok F' rd fun s'' F'' _ hk' => ?_)
    obtain ⟨m, oC, es, ep, hC, r⟩ := d.ns
    refine ⟨m, ⟨oC, es, ep, hk' _ _ frC.loc frC.cel hC, r⟩, fun h' hs => ?_⟩
    refine hQ.1 _ _ _ _ (F''.junk (tk := s''.toks) hCf ⟨frC.kp, frC.loc, frC.cel, fun y hy => ?_⟩ hs) hk
    unfold owNo at hy
    split at hy
    · cases hy
    · exact frC.own y hy
theorem assign_call (SR : SoundR prog w hB n R) {ts : List Expr} {kk : Nat} {f : Expr} {args : List Expr} {p cp pos : Pos} (hk : R.e kd (.Call f args [] cp) σ fun d => asTup d fun ds => ∃ σ', setAll kd ts (ds.map .sh) σ = some σ' ∧ k .nxt σ')
    (a : AOK (n + 1) A) (ok : EnvOK kd env) (hb : ∀ a o, hB.get? a = some o → fz₀ a = some o) (F : FSim kp fz₀ s₀ fz ow kd env σ s) (hQ : FQ kp fz₀ s₀ kd env k Q) :
    wpAny (model prog w) A (exec (.Assign [.Tuple ts kk p] (.Call f args [] cp) pos) env) Q E s := by
  refine Assign_Tuple (SR.e _ _ _ _ _ _ _ _ _ _ hk a ok (F.st hb) F.rel fun v d fz' s' g rd hk => ?_)
  cases d <;> first | exact hk.elim | skip
  rename_i ds
  obtain ⟨σ', hset, hk⟩ := hk
  obtain ⟨hσ, h1, h2, h3⟩ := setAll_eq hset
  have F' := F.grow g
  cases rd with
  | @tuple t o items nn xs e c dd z r =>
    have hlen := r.length
    rw [Array.length_toList] at hlen
    rw [List.length_map] at h1
    have hT : IsTup s'.heap t items := ⟨_, g.sub _ _ e, c, _, dd⟩
    obtain ⟨n1, n2, n3⟩ := assignEach_names (env := env) h2
    refine assign_Tuple_tuple a.hd hT (by rw [n1]; (first | lia | omega)) n2 fun h he => ?_
    have g2 := Grow.keep (fz := fz') (s := s') (tk := s'.toks) g.sub (h := h) fun b o e => he b o (fun r => by rw [r] at e; exact absurd (Heap.lt_size e) (Nat.lt_irrefl _)) e
    refine stores_sound (s₁ := s) ok (names := namesOf ts) (sls := ds.map .sh) (by rw [List.length_map, n1, h2]) (by rw [List.length_map]; (first | lia | omega)) (fun i x f hx hf v Q s h => ?_) h3 (F'.grow g2) (SlotAll.of (by rw [List.length_map, Array.length_toList, hlen]) (fun k u sl q1 q2 => ?_) fun i j l ds' es' _ _ q2 _ _ => ?_) (fun k l ds' q1 q2 => ?_) fun ow' s3 F3 => hQ.1 _ _ _ _ (hσ ▸ F3) hk
    · obtain ⟨p, rfl⟩ := n3 i x f hx hf
      exact wpAny_assign_Name h
    · rw [List.getElem?_map] at q2
      obtain ⟨d, hd, rfl⟩ := Option.map_eq_some_iff.mp q2
      obtain ⟨v, hv, rv⟩ := r.get hd
      rw [q1] at hv; cases hv
      exact rv
    · rw [List.getElem?_map] at q2
      obtain ⟨_, _, e⟩ := Option.map_eq_some_iff.mp q2
      cases e
    · rw [List.getElem?_map] at q2
      obtain ⟨_, _, e⟩ := Option.map_eq_some_iff.mp q2
      cases e
theorem assign_item (SR : SoundR prog w hB n R) {x : Str} {i e : Expr} {p1 p2 pos : Pos} {ds : List PyData} (hx : isVar kd x = true) (hc : notComp e = true) (hg : σ.get x = some (.own ds))
    (hk : R.e kd e σ fun d => R.e kd i σ fun j => asInt j fun j => 0 ≤ j ∧ j < ds.length ∧ k .nxt (σ.set x (.own (ds.set j.toNat d))))
    (a : AOK (n + 1) A) (ok : EnvOK kd env) (hb : ∀ a o, hB.get? a = some o → fz₀ a = some o) (F : FSim kp fz₀ s₀ fz ow kd env σ s) (hQ : FQ kp fz₀ s₀ kd env k Q) :
    wpAny (model prog w) A (exec (.Assign [.Subscript (.Name x p1) i p2] e pos) env) Q E s := by
  refine wpAny_Assign_Subscript (SR.e _ _ _ _ _ _ _ _ _ _ hk a ok (F.st hb) F.rel fun v d fz1 s1 g1 rv hk => ?_) (swapsWith_plain hc)
  have F1 := F.grow g1
  obtain ⟨l, vs, ho, va, p, z, r⟩ := F1.owv x ds hx hg
  refine name_var ok hx va (SR.e _ _ _ _ _ _ _ _ _ _ hk a ok (F1.st hb) F1.rel fun u j fz2 s2 g2 ru hk => ?_)
  cases ru <;> first | exact hk.elim | skip
  rename_i j t
  obtain ⟨h0, h1, hk⟩ := hk
  have F2 := F1.grow g2
  have hlen := r.length
  rw [Array.length_toList] at hlen
  refine set_plain (p.keeps g2.ext) h0 (by (first | lia | omega)) (by (first | lia | omega)) fun h' p' hs => ?_
  have F3 := F2.turn (tk := s2.toks) (vs' := vs.setIfInBounds j.toNat v) (ds' := ds.set j.toNat d) hx hg ho (va.ext g2.ext) (SameBut.ext hs) p' (by rw [Array.size_setIfInBounds]; exact z) (by rw [Array.toList_setIfInBounds]; exact (r.mono g2.le).set _ (rv.mono g2.le))
  exact hQ.1 _ _ _ _ F3 hk
theorem aug_sub (SR : SoundR prog w hB n R) {x : Str} {e : Expr} {p1 pos : Pos} (hx : canStore kd x = true) (hk : shName x σ fun a => R.e kd e σ fun b => asInt a fun i => asInt b fun j => k .nxt (σ.set x (.sh (.int (i - j)))))
    (a : AOK (n + 1) A) (ok : EnvOK kd env) (hb : ∀ a o, hB.get? a = some o → fz₀ a = some o) (F : FSim kp fz₀ s₀ fz ow kd env σ s) (hQ : FQ kp fz₀ s₀ kd env k Q) :
    wpAny (model prog w) A (exec (.AugAssign (.Name x p1) .Sub e pos) env) Q E s := by
  unfold shName at hk
  split at hk
  · rename_i d hg
    obtain ⟨v, va, rd⟩ := F.sh x d (canStore_isVar hx) hg
    refine wpAny_AugAssign_Name (load_var ok (canStore_isVar hx) va (SR.e _ _ _ _ _ _ _ _ _ _ hk a ok (F.st hb) F.rel fun u j fz' s' g ru hk => ?_))
    cases rd <;> first | exact hk.elim | skip
    cases ru <;> first | exact hk.elim | skip
    have F' := F.grow (g.trans (Grow.tok g.sub (s'.toks + 1)))
    exact isub_int (store_sh hx ok F' (.int _ _) fun s'' F'' _ _ => hQ.1 _ _ _ _ F'' hk)
  · exact hk.elim
theorem return_sound (SR : SoundR prog w hB n R) {e : Expr} {pos : Pos} (hk : R.e kd e σ fun d => k (.ret d) σ) (a : AOK (n + 1) A) (ok : EnvOK kd env) (hb : ∀ a o, hB.get? a = some o → fz₀ a = some o) (F : FSim kp fz₀ s₀ fz ow kd env σ s) (hQ : FQ kp fz₀ s₀ kd env k Q) :
    wpAny (model prog w) A (exec (.Return (some e) pos) env) Q E s :=
  wpAny_Return_some (SR.e _ _ _ _ _ _ _ _ _ _ hk a ok (F.st hb) F.rel fun v d fz' s' g rd hk => hQ.2 _ _ _ _ _ _ (F.grow g) rd hk)
theorem interactive_no (ok : EnvOK kd env) : interactive env = false := by
  unfold interactive
  rw [ok.fn]; rfl
theorem expr_call (SR : SoundR prog w hB n R) {f : Str} {fp cp pos : Pos} {args : List Expr} (hk : R.e kd (.Call (.Name f fp) args [] cp) σ fun d => match d with | .none => k .nxt σ | _ => False)
    (a : AOK (n + 1) A) (ok : EnvOK kd env) (hb : ∀ a o, hB.get? a = some o → fz₀ a = some o) (F : FSim kp fz₀ s₀ fz ow kd env σ s) (hQ : FQ kp fz₀ s₀ kd env k Q) :
    wpAny (model prog w) A (exec (.Expr (.Call (.Name f fp) args [] cp) pos) env) Q E s := by
  refine wpAny_Expr (SR.e _ _ _ _ _ _ _ _ _ _ hk a ok (F.st hb) F.rel fun v d fz' s' g rd hk => ?_) (interactive_no ok) rfl
  cases rd <;> first | exact hk.elim | skip
  exact hQ.1 _ _ _ _ (F.grow g) hk
variable {S : Stmt → Sg → (Fl → Sg → Prop) → Prop}
theorem if_sound (SR : SoundR prog w hB n R) (hS : SoundS prog w hB n kd S) {test : Expr} {body orelse : List Stmt} {pos : Pos} (hk : R.t kd test σ fun b => (b = true → wpSs S body σ k) ∧ (b = false → wpSs S orelse σ k))
    (a : AOK (n + 1) A) (ok : EnvOK kd env) (hb : ∀ a o, hB.get? a = some o → fz₀ a = some o) (F : FSim kp fz₀ s₀ fz ow kd env σ s) (hQ : FQ kp fz₀ s₀ kd env k Q) :
    wpAny (model prog w) A (exec (.If test body orelse pos) env) Q E s := by
  refine wpAny_If (SR.t _ _ _ _ _ _ _ _ _ _ hk a ok (F.st hb) F.rel fun b fz' s' g hk => ?_)
  cases b
  · exact sems_sound hS a ok hb (hk.2 rfl) (F.grow g) hQ
  · exact sems_sound hS a ok hb (hk.1 rfl) (F.grow g) hQ
theorem while_sound (SR : SoundR prog w hB n R) (hS : SoundS prog w hB n kd S) {test : Expr} {body : List Stmt} {pos : Pos} (hk : ∃ m, wpW R kd S test body k m σ)
    (a : AOK (n + 1) A) (ok : EnvOK kd env) (hb : ∀ a o, hB.get? a = some o → fz₀ a = some o) (F : FSim kp fz₀ s₀ fz ow kd env σ s) (hQ : FQ kp fz₀ s₀ kd env k Q) :
    wpAny (model prog w) A (exec (.While test body [] pos) env) Q E s := by
  obtain ⟨m, hk⟩ := hk
  refine wpAny_While (codeAny_whileLoop (fun m s' => ∃ σ' fz' ow', wpW R kd S test body k m σ' ∧ FSim kp fz₀ s₀ fz' ow' kd env σ' s') ?_ m ⟨σ, fz, ow, hk, F⟩)
  rintro m s' ⟨σ', fz', ow', hk, F'⟩
  cases m with
  | zero => exact hk.elim
  | succ m =>
    refine SR.t _ _ _ _ _ _ _ _ _ _ hk a ok (F'.st hb) F'.rel fun b fz'' s'' g hk => ?_
    have F'' := F'.grow g
    cases b
    · exact wpAny_execs_nil (hQ.1 _ _ _ _ F'' (hk.2 rfl))
    · refine sems_sound hS a ok hb (hk.1 rfl) F'' ⟨fun fz3 ow3 σ3 s3 F3 h3 => ⟨m, Nat.lt_succ_self _, σ3, fz3, ow3, h3, F3⟩, fun fz3 ow3 σ3 s3 v d F3 rd h3 => hQ.2 _ _ _ _ _ _ F3 rd h3⟩
end
end Mine
end
section
open PySem PySem.W PyProof.Rows PySem.Spec PySem.Calls
namespace Mine
section
variable {prog : Program} {w : World} {hB : Heap} {n : Nat} {kd : KD} {A : Around} {env : Env} {kp fz₀ : PH} {s₀ : Shared} {E : Value → Shared → Prop}
variable {R : Rec} {σ : Sg} {fz : PH} {ow : Str → Option Addr} {s : Shared} {k : Fl → Sg → Prop} {Q : Flow → Shared → Prop}
/-- the objects of an iterator: nothing of the frame's -/
noncomputable def WrOK (kp fz : PH) (env : Env) (ow : Str → Option Addr) (wr : List Addr) (h : Heap) : Prop := ∀ b ∈ wr, (∃ o, h.get? b = some o) ∧ fz b = none ∧ FreeL kp env ow b
theorem FSim.growW {wr : List Addr} {fz' : PH} {s' : Shared} (F : FSim kp fz₀ s₀ fz ow kd env σ s) (W : WrOK kp fz env ow wr s.heap) (g : GrowW wr fz s fz' s') : FSim kp fz₀ s₀ fz' ow kd env σ s' := by
  obtain ⟨h, tk, e⟩ := F.same
  obtain ⟨h', tk', e'⟩ := g.same
  have fresh : ∀ a o, s.heap.get? a = some o → fz a = none → fz' a = none := fun a o q hn => by
    cases r : fz' a with
    | none => rfl
    | some o' =>
      rcases g.new a o' r with x | x
      · rw [hn] at x; cases x
      · rw [q] at x; cases x
  have kpw : ∀ a o, kp a = some o → a ∉ wr := fun a o q hm => by rw [(W a hm).2.2.kp] at q; cases q
  have lw : env.locals ∉ wr := fun hm => (W _ hm).2.2.loc rfl
  have cw : ∀ x c, env.cells.lookup x = some c → c ∉ wr := fun x c hc hm => (W _ hm).2.2.cel x c hc rfl
  have ow' : ∀ x a, ow x = some a → a ∉ wr := fun x a ha hm => (W _ hm).2.2.own x ha
  obtain ⟨m, hm⟩ := F.loc
  obtain ⟨oL, hL⟩ : ∃ o, s.heap.get? env.locals = some o := let ⟨o, _, _, q, _⟩ := hm; ⟨o, q⟩
  have vk : ∀ y u, VarAt s.heap env y u → VarAt s'.heap env y u := fun y u a => by
    rcases a with ⟨q, m', n', hm'⟩ | ⟨q, c, hc, o, ho, hd⟩
    · exact .inl ⟨q, m', n'.at' fun o q => g.ext _ _ lw q, hm'⟩
    · exact .inr ⟨q, c, hc, o, g.ext _ _ (cw y c hc) ho, hd⟩
  refine ⟨⟨h', tk', by rw [e', e]⟩, fun a o q => g.ext _ _ (kpw a o q) (F.keep a o q), F.le.trans g.le, g.sub, fun a o q => ?_, ⟨m, hm.at' fun o q => g.ext _ _ lw q⟩, ⟨F.locn.1, fresh _ _ hL F.locn.2⟩, fun x c hc => ?_, F.celi, fun x a ha => ?_, F.owi, fun x d h1 h2 => ?_, fun x ds h1 h2 => ?_⟩
  · rcases g.new a o q with x | x
    · exact F.new a o x
    · right
      cases r : kp a with
      | none => rfl
      | some o' => rw [F.keep a o' r] at x; cases x
  · obtain ⟨⟨v, o, ho, hd⟩, h1, h2, h3⟩ := F.cel x c hc
    exact ⟨⟨v, o, g.ext _ _ (cw x c hc) ho, hd⟩, h1, fresh _ _ ho h2, h3⟩
  · obtain ⟨⟨o, ho⟩, h1, h2, h3⟩ := F.own x a ha
    exact ⟨⟨o, g.ext _ _ (ow' x a ha) ho⟩, h1, fresh _ _ ho h2, h3⟩
  · obtain ⟨v, a, r⟩ := F.sh x d h1 h2
    exact ⟨v, vk x v a, r.mono g.le⟩
  · obtain ⟨a, vs, ha, va, ⟨o, nn, ho, p⟩, z, r⟩ := F.owv x ds h1 h2
    exact ⟨a, vs, ha, vk x _ va, ⟨o, nn, g.ext _ _ (ow' x a ha) ho, p⟩, z, r.mono g.le⟩
theorem WrOK.growW {wr : List Addr} {fz' : PH} {s' : Shared} (W : WrOK kp fz env ow wr s.heap) (g : GrowW wr fz s fz' s') (hw : ∀ b ∈ wr, ∃ o, s'.heap.get? b = some o) : WrOK kp fz' env ow wr s'.heap := fun b hb => by
  obtain ⟨⟨o, ho⟩, h1, h2⟩ := W b hb
  refine ⟨hw b hb, ?_, h2⟩
  cases r : fz' b with
  | none => rfl
  | some o' =>
    rcases g.new b o' r with x | x
    · rw [h1] at x; cases x
    · rw [ho] at x; cases x
theorem FreeL.less {ow' : Str → Option Addr} {l : Addr} (f : FreeL kp env ow l) (h : ∀ y a, ow' y = some a → ow y = some a) : FreeL kp env ow' l := ⟨f.kp, f.loc, f.cel, fun y hy => f.own y (h y l hy)⟩
theorem owNo_less {x : Str} : ∀ y a, owNo ow x y = some a → ow y = some a := fun y a h => by
  unfold owNo at h
  split at h
  · cases h
  · exact h
theorem bindF_sound {target : Expr} {v : Value} {d : PyData} {K : Sg → Prop} {QU : Unit → Shared → Prop} (hb : bindT target d σ K) (hc : ∀ x ∈ tgNames target, canStore kd x = true) (ok : EnvOK kd env) (hh : A.handled = none) (hv : Rd fz v d) (F : FSim kp fz₀ s₀ fz ow kd env σ s)
    (hQ : ∀ ow' σ' s', K σ' → FSim kp fz₀ s₀ fz ow' kd env σ' s' → (∀ y a, ow' y = some a → ow y = some a) → (∀ b o, b ≠ env.locals → (∀ z c, env.cells.lookup z = some c → c ≠ b) → s.heap.get? b = some o → s'.heap.get? b = some o) → QU () s') :
    wpAny (model prog w) A (assign target env v) QU E s := by
  unfold bindT at hb
  split at hb
  · rename_i x px
    exact wpAny_assign_Name (store_sh (hc x (by simp [tgNames])) ok F hv fun s' F' _ hk => hQ _ _ s' hb F' owNo_less hk)
  · rename_i x px y py kk tp
    cases d <;> first | exact hb.elim | skip
    rename_i ds
    dsimp only [asTup] at hb
    split at hb
    · rename_i a b
      cases hv with
      | @tuple t o items n xs e cc dd z r =>
        obtain ⟨v1, v2, e2, r1, r2⟩ := r.two
        have ht : IsTup s.heap t items := ⟨_, F.sub _ _ e, cc, _, dd⟩
        have hsz : items.size = 2 := by rw [← Array.length_toList, e2]; rfl
        refine assign_Tuple_tuple hh ht (by rw [hsz]; rfl) rfl fun h₁ he => ?_
        have hE : Ext s.heap h₁ := fun b o q => he b o (fun r => by rw [r] at q; exact absurd (Heap.lt_size q) (Nat.lt_irrefl _)) q
        have F1 := F.grow (Grow.keep (tk := s.toks) F.sub hE)
        rw [e2]
        refine assignInOrder_cons (wpAny_assign_Name (store_sh (hc x (by simp [tgNames])) ok F1 r1 fun s2 F2 _ hk2 => ?_))
        refine assignInOrder_cons (wpAny_assign_Name (store_sh (hc y (by simp [tgNames])) ok F2 r2 fun s3 F3 _ hk3 => assignInOrder_nil ?_))
        exact hQ _ _ s3 hb F3 (fun z a h => owNo_less z a (owNo_less z a h)) fun b o h1 h2 q => hk3 b o h1 h2 (hk2 b o h1 h2 (hE _ _ q))
    · exact hb.elim
  · exact hb.elim
variable {S : Stmt → Sg → (Fl → Sg → Prop) → Prop}
theorem for_sound (B : Base prog w hB) (SR : SoundR prog w hB n R) (hS : SoundS prog w hB n kd S) {target iter : Expr} {body : List Stmt} {pos : Pos} (hf : forOk kd target = true) (hpl : plainIter iter = true) (hte : isTupT target = isEnumE kd iter)
    (hk : wpIter R kd iter σ fun ds => wpF S target body k ds σ)
    (a : AOK (n + 1) A) (ok : EnvOK kd env) (hb : ∀ a o, hB.get? a = some o → fz₀ a = some o) (F : FSim kp fz₀ s₀ fz ow kd env σ s) (hQ : FQ kp fz₀ s₀ kd env k Q) :
    wpAny (model prog w) A (exec (.For target iter body [] pos) env) Q E s := by
  have hlist : ∀ es p, target ≠ .List es p := by
    intro es p e
    subst e
    simp [forOk] at hf
  have hcs : ∀ x ∈ tgNames target, canStore kd x = true := by
    unfold forOk at hf
    simp only [Bool.and_eq_true, List.all_eq_true] at hf
    exact hf.1
  have hfold := fold_plain (env := env) hpl
  refine wpAny_For (iter_sound B SR hk hte hlist a ok (F.st hb) F.rel fun I wr ds J fz₂ s₂ itr hJ g₂ hwr hsz hk => ?_) hfold
  have F2 := F.grow g₂
  have W2 : WrOK kp fz₂ env ow wr s₂.heap := fun b hb => ⟨itr.out _ _ _ hJ b hb, (hwr b hb).1, F.free (hwr b hb).2⟩
  refine codeAny_forLoop_any (fun m s' => ∃ i σ' fz' ow', i ≤ ds.length ∧ m = ds.length + 1 - i ∧ FSim kp fz₀ s₀ fz' ow' kd env σ' s' ∧ WrOK kp fz' env ow' wr s'.heap ∧ J i fz' s'.heap ∧ wpF S target body k (ds.drop i) σ') ?_ (ds.length + 1)
    ⟨0, σ, fz₂, ow, Nat.zero_le _, rfl, F2, W2, hJ, hk⟩
  rintro m s' ⟨i, σ', fz', ow', hi, rfl, F', W', hJ', hk⟩
  by_cases hlt : i < ds.length
  · have hdi : ds[i]? = some (ds[i]'hlt) := List.getElem?_eq_getElem hlt
    rw [List.drop_eq_getElem_cons hlt] at hk
    refine itr.next (fun v s₁ h => h) hdi hJ' F'.sub (fun b hb => (W' b hb).2.1) fun v fz'' s'' gw hJ'' rv => ?_
    have F'' := F'.growW W' gw
    have W'' := W'.growW gw (itr.out _ _ _ hJ'')
    refine bindF_sound hk hcs ok a.hd rv F'' fun ow3 σ3 s3 hk3 F3 hless hkeep => ?_
    have W3 : WrOK kp fz'' env ow3 wr s3.heap := fun b hb => by
      obtain ⟨⟨o, ho⟩, h1, h2⟩ := W'' b hb
      exact ⟨⟨o, hkeep b o h2.loc h2.cel ho⟩, h1, h2.less hless⟩
    have hJ3 : J (i + 1) fz'' s3.heap := itr.frame _ _ _ _ _ hJ'' F''.sub (PH.le.refl _) F3.sub fun b hb o q => hkeep b o (W'' b hb).2.2.loc (W'' b hb).2.2.cel q
    -- the body runs, the iterator's objects kept
    have kple : PH.le kp (fun b => if b ∈ wr then s3.heap.get? b else kp b) := fun b o q => by
      dsimp only
      rw [if_neg (fun hm => by rw [(W3 b hm).2.2.kp] at q; cases q)]; exact q
    have F4 : FSim (fun b => if b ∈ wr then s3.heap.get? b else kp b) fz'' s₀ fz'' ow3 kd env σ3 s3 := by
      have off : ∀ b, b ∉ wr → (if b ∈ wr then s3.heap.get? b else kp b) = kp b := fun b hb => if_neg hb
      refine ⟨F3.same, fun b o q => ?_, PH.le.refl _, F3.sub, fun b o q => .inl q, F3.loc, ⟨?_, F3.locn.2⟩, fun x c hc => ?_, F3.celi, fun x b hx => ?_, F3.owi, F3.sh, F3.owv⟩
      · split at q
        · exact q
        · exact F3.keep b o q
      · rw [off _ fun hm => (W3 _ hm).2.2.loc rfl]; exact F3.locn.1
      · obtain ⟨q1, q2, q3⟩ := F3.cel x c hc
        refine ⟨q1, ?_, q3⟩
        rw [off _ fun hm => (W3 _ hm).2.2.cel x c hc rfl]; exact q2
      · obtain ⟨q1, q2, q3⟩ := F3.own x b hx
        refine ⟨q1, ?_, q3⟩
        rw [off _ fun hm => (W3 _ hm).2.2.own x hx]; exact q2
    have back : ∀ {fz5 ow5 σ5 s5}, FSim (fun b => if b ∈ wr then s3.heap.get? b else kp b) fz'' s₀ fz5 ow5 kd env σ5 s5 → FSim kp fz₀ s₀ fz5 ow5 kd env σ5 s5 := fun F5 => F5.weaken kple F3.le F3.new
    have hb' : ∀ a o, hB.get? a = some o → fz'' a = some o := fun a o q => F3.le _ _ (hb a o q)
    refine sems_sound hS a ok hb' hk3 F4 ⟨fun fz5 ow5 σ5 s5 F5 h5 => ?_, fun fz5 ow5 σ5 s5 v d F5 rd h5 => ?_⟩
    · have keepW : ∀ b ∈ wr, ∀ o, s3.heap.get? b = some o → s5.heap.get? b = some o := fun b hb o q => F5.keep b o (by rw [if_pos hb]; exact q)
      refine ⟨ds.length + 1 - (i + 1), by (first | lia | omega), i + 1, σ5, fz5, ow5, hlt, rfl, back F5, fun b hb => ?_, itr.frame _ _ _ _ _ hJ3 F3.sub F5.le F5.sub keepW, h5⟩
      obtain ⟨⟨o, ho⟩, h1, h2⟩ := W3 b hb
      refine ⟨⟨o, keepW b hb o ho⟩, ?_, h2.kp, h2.loc, h2.cel, fun y hy => ?_⟩
      · cases r : fz5 b with
        | none => rfl
        | some o' =>
          rcases F5.new b o' r with x | x
          · rw [h1] at x; cases x
          · rw [if_pos hb, ho] at x; cases x
      · have := (F5.own y b hy).2.1
        rw [if_pos hb, ho] at this; cases this
    · exact hQ.2 _ _ _ _ _ _ (back F5) rd h5
  · obtain rfl : i = ds.length := Nat.le_antisymm hi (Nat.not_lt.mp hlt)
    rw [List.drop_length] at hk
    refine itr.done fz' s' _ _ hJ' F'.sub (fun b hb => (W' b hb).2.1) fun s'' gw => wpAny_execs_nil ?_
    exact hQ.1 _ _ _ _ (F'.growW W' gw) hk
end
end Mine
end
section
open PySem PySem.W PyProof.Rows PySem.Spec PySem.Calls
namespace Mine
section
variable {prog : Program} {w : World} {hB : Heap} {ad : Str → Addr} {n : Nat} {kd : KD} {A : Around} {env : Env} {kp fz₀ : PH} {s₀ : Shared} {E : Value → Shared → Prop}
variable {R : Rec} {σ : Sg} {fz : PH} {ow : Str → Option Addr} {s : Shared}
/-- an owned list is turned, and more is made -/
theorem FSim.turnG {x : Str} {l : Addr} {ds ds' : List PyData} {vs' : Array Value} {fz' : PH} {s' : Shared} (F : FSim kp fz₀ s₀ fz ow kd env σ s) (hx : isVar kd x = true) (hl : ow x = some l) (va : VarAt s.heap env x (.ref l))
    (same : ∃ h tk, s' = { s with heap := h, toks := tk }) (hs : ∀ b o, b ≠ l → s.heap.get? b = some o → s'.heap.get? b = some o) (le : PH.le fz fz') (sub : Inn fz' s'.heap) (new : ∀ a o, fz' a = some o → fz a = some o ∨ (a ≠ l ∧ s.heap.get? a = none))
    (p : PlainL s'.heap l vs') (z : vs'.size ≤ 2 ^ 20) (r : RdAll fz' vs'.toList ds') : FSim kp fz₀ s₀ fz' ow kd env (σ.set x (.own ds')) s' ∧ (∀ y u, VarAt s.heap env y u → VarAt s'.heap env y u) := by
  obtain ⟨h, tk₀, e⟩ := F.same
  obtain ⟨h', tk', e'⟩ := same
  obtain ⟨⟨o, ho⟩, h1, h2, h3, h4⟩ := F.own x l hl
  obtain ⟨m, hm⟩ := F.loc
  obtain ⟨oL, hL⟩ : ∃ o, s.heap.get? env.locals = some o := let ⟨o, _, _, q, _⟩ := hm; ⟨o, q⟩
  have hn' : s'.heap.Ns env.locals m := hm.at' fun o q => hs _ _ (Ne.symm h3) q
  have fresh : ∀ a o, s.heap.get? a = some o → fz a = none → fz' a = none := fun a o q hn => by
    cases r : fz' a with
    | none => rfl
    | some o' =>
      rcases new a o' r with x | ⟨_, x⟩
      · rw [hn] at x; cases x
      · rw [q] at x; cases x
  have vk : ∀ y u, VarAt s.heap env y u → VarAt s'.heap env y u := fun y u a => by
    rcases a with ⟨k, m', n', hm'⟩ | ⟨k, c, hc, i⟩
    · exact .inl ⟨k, m', n'.at' fun o q => hs _ _ (Ne.symm h3) q, hm'⟩
    · obtain ⟨o', ho', hd'⟩ := i
      exact .inr ⟨k, c, hc, o', hs _ _ (h4 y c hc) ho', hd'⟩
  refine ⟨⟨⟨h', tk', by rw [e', e]⟩, fun a o q => hs _ _ (fun r => by rw [r, h1] at q; cases q) (F.keep a o q), F.le.trans le, sub, fun a o q => ?_, ⟨m, hn'⟩, ⟨F.locn.1, fresh _ _ hL F.locn.2⟩, fun y c hc => ?_, F.celi, fun y a ha => ?_, F.owi, fun y d h5 h6 => ?_, fun y es h5 h6 => ?_⟩, vk⟩
  · rcases new a o q with x | ⟨_, x⟩
    · exact F.new a o x
    · right
      cases r : kp a with
      | none => rfl
      | some o' => rw [F.keep a o' r] at x; cases x
  · obtain ⟨⟨v, o', ho', hd'⟩, q1, q2, q3⟩ := F.cel y c hc
    exact ⟨⟨v, o', hs _ _ (h4 y c hc) ho', hd'⟩, q1, fresh _ _ ho' q2, q3⟩
  · obtain ⟨⟨o', ho'⟩, q1, q2, q3⟩ := F.own y a ha
    refine ⟨?_, q1, fresh _ _ ho' q2, q3⟩
    by_cases ea : a = l
    · obtain ⟨o2, nn, q2, _⟩ := p
      exact ⟨o2, ea ▸ q2⟩
    · exact ⟨o', hs _ _ ea ho'⟩
  · rw [Sg.get_set] at h6
    split at h6
    · cases h6
    · obtain ⟨u, a, rr⟩ := F.sh y d h5 h6
      exact ⟨u, vk y u a, rr.mono le⟩
  · rw [Sg.get_set] at h6
    split at h6
    · rename_i ey; cases h6
      exact ⟨l, vs', by rw [ey]; exact hl, by rw [ey]; exact vk x _ va, p, z, r⟩
    · rename_i ey
      obtain ⟨a, vs, ha, va', ⟨o2, nn, q2, q3⟩, zz, rr⟩ := F.owv y es h5 h6
      exact ⟨a, vs, ha, vk y _ va', ⟨o2, nn, hs _ _ (fun ea => ey (F.owi y x l (ea ▸ ha) hl)) q2, q3⟩, zz, rr.mono le⟩
/-- the call that turns the list of a name -/
theorem mcall_sound (SR : SoundR prog w hB n R) {f p : Str} {fp pp cp : Pos} {as : List Expr} {ds : List PyData} {K : PyData → List PyData → Prop} {QV : Value → Shared → Prop} (hf : kd f = some .globalImplicit) (hd : IsDef prog w hB f (ad f)) (hp : isVar kd p = true) (hg : σ.get p = some (.own ds))
    (hk : wpArgs R kd as σ fun xs => ∃ d ds', MCallAt prog w hB n (ad f) ds xs d ds' ∧ K d ds')
    (a : AOK (n + 1) A) (ok : EnvOK kd env) (hb : ∀ a o, hB.get? a = some o → fz₀ a = some o) (F : FSim kp fz₀ s₀ fz ow kd env σ s)
    (hQ : ∀ v d ds' fz' s', FSim kp fz₀ s₀ fz' ow kd env (σ.set p (.own ds')) s' → (∀ y u, VarAt s.heap env y u → VarAt s'.heap env y u) → Rd fz' v d → K d ds' → QV v s') :
    wpAny (model prog w) A (eval (.Call (.Name f fp) (.Name p pp :: as) [] cp) env) QV E s := by
  obtain ⟨hG, o, fd, ho, hdat⟩ := hd
  obtain ⟨l, us, hl, va, pl, z, r⟩ := F.owv p ds hp hg
  refine Call_Name rfl (name_glob ok hf hG (F.st hb) ?_)
  have hns : (Expr.Name p pp :: as).all notStar = true := by
    rw [List.all_cons, hk.1]; rfl
  refine Calls.callWith_function (o := o) (fd := fd) (evalArgs_all hns rfl ?_)
  rw [starEach_cons rfl]
  refine spliced_cons (name_var ok hp va ?_)
  refine args_sound SR hk a ok (F.st hb) F.rel fun vs xs fz' s' g rds hk => ?_
  obtain ⟨d, ds', hm, hk⟩ := hk
  have F' := F.grow g
  have ln : fz' l = none := (F'.own p l hl).2.2.1
  refine ⟨⟨(F'.st hb).ext _ _ ho, hdat⟩, ?_⟩
  refine hm A s' fz' l us vs QV E (a.le (Nat.le_succ n)) (F'.st hb) rds ln (pl.keeps g.ext) z (r.mono g.le) fun v fz2 s2 us' same hkeep le sub new p' z' r' rv => ?_
  obtain ⟨F2, hv2⟩ := F'.turnG (ds := ds) hp hl (va.ext g.ext) same hkeep le sub new p' z' r'
  exact hQ v d ds' fz2 s2 F2 (fun y u hy => hv2 y u (hy.ext g.ext)) rv hk
theorem mut_sound (SR : SoundR prog w hB n R) {e : Expr} {K : PyData → Sg → Prop} {QV : Value → Shared → Prop} (hk : wpMut (semC prog w hB ad n) R kd e σ K)
    (a : AOK (n + 1) A) (ok : EnvOK kd env) (hb : ∀ a o, hB.get? a = some o → fz₀ a = some o) (F : FSim kp fz₀ s₀ fz ow kd env σ s)
    (hQ : ∀ v d fz' ow' σ' s', FSim kp fz₀ s₀ fz' ow' kd env σ' s' → (∀ y u, VarAt s.heap env y u → VarAt s'.heap env y u) → Rd fz' v d → K d σ' → QV v s') :
    wpAny (model prog w) A (eval e env) QV E s := by
  cases e with
  | BinOp l op r p =>
    cases l with
    | Call f args ks q =>
      cases f with
      | Name f fp =>
        rcases args with _ | ⟨a1, as⟩
        · exact hk.elim
        · cases a1 with
          | Name x xp =>
            cases ks with
            | nil =>
              cases r with
              | Constant c m rp =>
                cases c with
                | int c =>
                  obtain ⟨hf, hd, hp, ds, hg, hk⟩ := hk
                  refine wpAny_BinOp (mcall_sound (ad := ad) (K := fun d ds' => wpBin _ d (.int c) fun r => K r (σ.set _ (.own ds'))) SR hf hd hp hg hk a ok hb F fun v d ds' fz1 s1 F1 hv rd hk => ?_)
                  refine wpAny_Constant_int ?_
                  have g2 : Grow fz1 s1 fz1 { s1 with toks := s1.toks + 1 } := Grow.tok F1.sub _
                  have F2 := F1.grow g2
                  exact bin_sound hk (F2.st hb) rd (.int _ _) fun v d fz3 s3 g3 rd hk => hQ _ _ _ _ _ _ (F2.grow g3) (fun y u h => ((hv y u h).ext g2.ext).ext g3.ext) rd hk
                | _ => exact hk.elim
              | _ => exact hk.elim
            | cons k1 ks => exact hk.elim
          | _ => exact hk.elim
      | _ => exact hk.elim
    | Constant c m lp =>
      cases c with
      | int c =>
        cases r with
        | Call f args ks q =>
          cases f with
          | Name f fp =>
            rcases args with _ | ⟨a1, as⟩
            · exact hk.elim
            · cases a1 with
              | Name x xp =>
                cases ks with
                | nil =>
                  obtain ⟨hf, hd, hp, ds, hg, hk⟩ := hk
                  refine wpAny_BinOp (wpAny_Constant_int ?_)
                  have g1 : Grow fz s fz { s with toks := s.toks + 1 } := Grow.tok F.sub _
                  have F1 := F.grow g1
                  refine mcall_sound (ad := ad) (K := fun d ds' => wpBin op (.int c) d fun r => K r (σ.set _ (.own ds'))) SR hf hd hp hg hk a ok hb F1 fun v d ds' fz2 s2 F2 hv rd hk => ?_
                  exact bin_sound hk (F2.st hb) (.int _ _) rd fun v d fz3 s3 g3 rd hk => hQ _ _ _ _ _ _ (F2.grow g3) (fun y u h => (hv y u (h.ext g1.ext)).ext g3.ext) rd hk
                | cons k1 ks => exact hk.elim
              | _ => exact hk.elim
          | _ => exact hk.elim
        | _ => exact hk.elim
      | _ => exact hk.elim
    | _ => exact hk.elim
  | _ => exact hk.elim
theorem append_sound {k : Fl → Sg → Prop} {Q : Flow → Shared → Prop} (SR : SoundR prog w hB n R) {x : Str} {e : Expr} {xp apos cpos pos : Pos} (hline : (apos.endLine == cpos.line) = true) (hns : notStar e = true) (hx : isVar kd x = true)
    (ok : EnvOK kd env) (F : FSim kp fz₀ s₀ fz ow kd env σ s) (hg : ∃ ds, σ.get x = some (.own ds)) (hQ : FQ kp fz₀ s₀ kd env k Q)
    (he : ∀ (QV : Value → Shared → Prop), (∀ v d fz' ow' σ' s', FSim kp fz₀ s₀ fz' ow' kd env σ' s' → (∀ y u, VarAt s.heap env y u → VarAt s'.heap env y u) → Rd fz' v d → (∃ ds, σ'.get x = some (.own ds) ∧ ds.length < 2 ^ 20 ∧ k .nxt (σ'.set x (.own (ds ++ [d])))) → QV v s') → wpAny (model prog w) A (eval e env) QV E s) :
    wpAny (model prog w) A (exec (.Expr (.Call (.Attribute (.Name x xp) (Str.ofString "append") apos) [e] [] cpos) pos) env) Q E s := by
  obtain ⟨ds₀, hg⟩ := hg
  obtain ⟨D, its, _, va, pl, _⟩ := F.owv x ds₀ hx hg
  refine wpAny_Expr ?_ (interactive_no ok) rfl
  have hst : starEach [e] env = [(false, eval e env)] := starEach_cons hns
  refine wpAny_Call_append rfl (by rw [hst]; rfl) hline (by rw [hst]; rfl) (name_var ok hx va ⟨D, its, rfl, pl, ?_⟩)
  refine he _ fun v d fz' ow' σ' s' F' hv rd hk => ?_
  obtain ⟨ds, hg', hlt, hk⟩ := hk
  obtain ⟨D', its', ho', va', pl', z', r'⟩ := F'.owv x ds hx hg'
  have e1 := (hv x _ va).unique va'
  cases e1
  have hlen := r'.length
  rw [Array.length_toList] at hlen
  refine list_append_plainL pl' (fun h' p' hs => ?_) (by rw [sizeLine_eq]; (first | lia | omega))
  have F2 := F'.turn (tk := s'.toks) (vs' := its'.push v) (ds' := ds ++ [d]) hx hg' ho' va' (SameBut.ext hs) p' (by rw [Array.size_push]; (first | lia | omega)) (by rw [Array.toList_push]; exact r'.append (.cons rd .nil))
  exact hQ.1 _ _ _ _ F2 hk
variable {k : Fl → Sg → Prop} {Q : Flow → Shared → Prop} {S : Stmt → Sg → (Fl → Sg → Prop) → Prop}
theorem stepS_sound (B : Base prog w hB) (SR : SoundR prog w hB n R) (hS : SoundS prog w hB n kd S) {st : Stmt} (hk : stepS (semC prog w hB ad n) R kd S st σ k)
    (a : AOK (n + 1) A) (ok : EnvOK kd env) (hb : ∀ a o, hB.get? a = some o → fz₀ a = some o) (F : FSim kp fz₀ s₀ fz ow kd env σ s) (hQ : FQ kp fz₀ s₀ kd env k Q) :
    wpAny (model prog w) A (exec st env) Q E s := by
  cases st with
  | Expr e p =>
    cases e with
    | Call f args ks cp =>
      cases f with
      | Attribute v m apos =>
        cases v with
        | Name x xp =>
          rcases args with _ | ⟨e, _ | ⟨e2, es⟩⟩ <;> rcases ks with _ | ⟨k1, ks⟩ <;> first | exact hk.elim | skip
          obtain ⟨rfl, hline, hns, hx, hk⟩ := hk
          rcases hk with ⟨hg, hk⟩ | ⟨hg, hk⟩
          · exact append_sound SR hline hns hx ok F hg hQ fun QV h => mut_sound SR hk a ok hb F h
          · obtain ⟨fz', le, F'⟩ := F.frz (escE 20 _)
            exact append_sound SR hline hns hx ok F' hg hQ fun QV h => SR.e _ _ _ _ _ _ _ _ _ _ hk a ok (F'.st hb) F'.rel fun v d fz'' s'' g rd hk => h v d fz'' _ _ s'' (F'.grow g) (fun y u hv => hv.ext g.ext) rd hk
        | _ => exact hk.elim
      | Name f fp =>
        cases ks with
        | nil =>
          obtain ⟨fz', le, F'⟩ := F.frz (escE 20 _)
          exact expr_call SR hk a ok hb F' hQ
        | cons k1 ks => exact hk.elim
      | _ => exact hk.elim
    | _ => exact hk.elim
  | Assign ts e p =>
    rcases ts with _ | ⟨t, _ | ⟨t2, ts⟩⟩
    · exact hk.elim
    · cases t with
      | Name x q =>
        have hk' : (∃ elt t i ifs sc cp, e = .ListComp elt [⟨t, i, ifs, 0⟩] sc cp) ∨ (canStore kd x = true ∧ notComp e = true ∧ wpVal R kd e (σ.frz (escE 20 e)) fun v => k .nxt ((σ.frz (escE 20 e)).set x v)) := by
          cases e with
          | ListComp elt gs sc cp =>
            rcases gs with _ | ⟨⟨t, i, ifs, as⟩, _ | ⟨g, gs⟩⟩
            · exact nomatch hk.2.1
            · rcases as with (_ | m) | m
              · exact .inl ⟨_, _, _, _, _, _, rfl⟩
              · exact nomatch hk.2.1
              · exact nomatch hk.2.1
            · rcases as with (_ | m) | m <;> exact nomatch hk.2.1
          | _ => exact .inr hk
        rcases hk' with ⟨elt, t, i, ifs, sc, cp, rfl⟩ | hk'
        · exact assign_comp B SR hk.1 hk.2 a ok hb F hQ
        · obtain ⟨fz', le, F'⟩ := F.frz (escE 20 _)
          exact assign_name SR hk'.1 hk'.2.1 hk'.2.2 a ok hb F' hQ
      | Tuple ts m q =>
        cases e with
        | Tuple es m q2 =>
          obtain ⟨fz', le, F'⟩ := F.frz _
          exact assign_par SR hk.1 hk.2.1 hk.2.2.1 hk.2.2.2.1 hk.2.2.2.2 a ok hb F' hQ
        | Call f args ks q2 =>
          cases ks with
          | nil =>
            obtain ⟨fz', le, F'⟩ := F.frz (escE 20 _)
            exact assign_call SR hk a ok hb F' hQ
          | cons k1 ks => exact hk.elim
        | _ => exact hk.elim
      | Subscript v i q =>
        cases v with
        | Name x q2 =>
          obtain ⟨fz', le, F'⟩ := F.frz (escE 20 _)
          obtain ⟨hx, hc, ds, hg, hk⟩ := hk
          exact assign_item SR hx hc hg hk a ok hb F' hQ
        | _ => exact hk.elim
      | _ => exact hk.elim
    · cases t with
      | Subscript v i q => cases v <;> exact hk.elim
      | _ => first | exact hk.elim | (cases e <;> exact hk.elim)
  | AugAssign t op e p =>
    cases t with
    | Name x q =>
      cases op with
      | Sub => exact aug_sub SR hk.1 hk.2 a ok hb F hQ
      | _ => exact hk.elim
    | _ => exact hk.elim
  | If test body orelse p =>
    obtain ⟨fz', le, F'⟩ := F.frz (escE 20 _)
    exact if_sound SR hS hk a ok hb F' hQ
  | While test body orelse p =>
    cases orelse with
    | nil => exact while_sound SR hS hk a ok hb F hQ
    | cons s1 r1 => exact hk.elim
  | For target iter body orelse p =>
    cases orelse with
    | nil =>
      obtain ⟨fz', le, F'⟩ := F.frz (escE 20 _)
      exact for_sound B SR hS hk.1 hk.2.1 hk.2.2.1 hk.2.2.2 a ok hb F' hQ
    | cons s1 r1 => exact hk.elim
  | Return v p =>
    cases v with
    | none => exact hk.elim
    | some e =>
      obtain ⟨fz', le, F'⟩ := F.frz (escE 20 _)
      exact return_sound SR hk a ok hb F' hQ
  | _ => exact hk.elim
theorem wpS_sound (B : Base prog w hB) : ∀ N, SoundS prog w hB n kd (wpS (semC prog w hB ad n) kd N)
  | 0 => fun _ _ _ _ _ _ _ _ _ _ _ _ _ h => h.elim
  | N + 1 => fun st σ k A env kp fz₀ s₀ fz ow s Q E h a ok hb F hQ => stepS_sound B (wpN_sound B 20) (wpS_sound B N) h a ok hb F hQ
end
end Mine
end
section
open PySem PySem.W PyProof.Rows PySem.Spec PySem.Calls
namespace Mine
theorem bindL_off {kindOf : Str → Option NameKind} : ∀ {binds : List (Str × Value)} {m : Str → Option Value} {x : Str}, x ∉ binds.map (·.1) → bindL kindOf binds m x = m x
  | [], _, _, _ => rfl
  | (y, v) :: r, m, x, h => by
    simp only [List.map_cons, List.mem_cons, not_or] at h
    unfold bindL
    rw [bindL_off h.2]
    split
    · simp [h.1]
    · rfl
theorem bindC_off {kindOf : Str → Option NameKind} : ∀ {binds : List (Str × Value)} {m : Str → Option Value} {x : Str}, x ∉ binds.map (·.1) → bindC kindOf binds m x = m x
  | [], _, _, _ => rfl
  | (y, v) :: r, m, x, h => by
    simp only [List.map_cons, List.mem_cons, not_or] at h
    unfold bindC
    rw [bindC_off h.2]
    split
    · rfl
    · simp [h.1]
theorem bindL_at {kindOf : Str → Option NameKind} : ∀ {binds : List (Str × Value)} {m : Str → Option Value} {x : Str} {v : Value}, (binds.map (·.1)).Nodup → (x, v) ∈ binds → kindOf x = some .local → bindL kindOf binds m x = some v
  | [], _, _, _, _, h, _ => nomatch h
  | (y, u) :: r, m, x, v, hn, h, hk => by
    obtain ⟨hy, hn⟩ := List.nodup_cons.mp hn
    unfold bindL
    rcases List.mem_cons.mp h with e | h
    · cases e
      rw [bindL_off hy, if_pos hk]; simp
    · exact bindL_at hn h hk
theorem bindC_at {kindOf : Str → Option NameKind} : ∀ {binds : List (Str × Value)} {m : Str → Option Value} {x : Str} {v : Value}, (binds.map (·.1)).Nodup → (x, v) ∈ binds → kindOf x ≠ some .local → bindC kindOf binds m x = some v
  | [], _, _, _, _, h, _ => nomatch h
  | (y, u) :: r, m, x, v, hn, h, hk => by
    obtain ⟨hy, hn⟩ := List.nodup_cons.mp hn
    unfold bindC
    rcases List.mem_cons.mp h with e | h
    · cases e
      rw [bindC_off hy, if_neg hk]; simp
    · exact bindC_at hn h hk
theorem cellsFrom_mem : ∀ (names : List (Str × NameKind)) (n : Nat) (acc : List (Str × Addr)) (x : Str), ((x, NameKind.cell) ∈ names ∨ ∃ c, acc.lookup x = some c) → ∃ c, (cellsFrom n names acc).lookup x = some c
  | [], n, acc, x, h => by
    rcases h with h | h
    · exact nomatch h
    · exact h
  | (y, k) :: r, n, acc, x, h => by
    unfold cellsFrom
    split
    · refine cellsFrom_mem r _ _ x ?_
      by_cases e : x = y
      · subst e; exact .inr ⟨n, by simp⟩
      · have e' : (x == y) = false := by simpa using e
        rcases h with h | ⟨c, h⟩
        · rcases List.mem_cons.mp h with h | h
          · cases h; exact absurd rfl e
          · exact .inl h
        · exact .inr ⟨c, by rw [List.lookup_cons, e']; exact h⟩
    · rename_i hk
      refine cellsFrom_mem r _ _ x (h.imp (fun h => ?_) id)
      rcases List.mem_cons.mp h with h | h
      · cases h; exact absurd rfl hk
      · exact h
/-- a def of the text: what is known of it as it stands -/
structure DefAt (hB : Heap) (fa : Addr) (params : List Str) (sc : Scope) (body : List Stmt) : Prop where
  ex : ∃ o fd, hB.get? fa = some o ∧ o.data = .func fd ∧ hB.CodeRec fd.code fd.qualname ∧ fd.body = .stmts body ∧ fd.closure = [] ∧ fd.globals = mainGlobals ∧ fd.builtins = builtinsNs ∧ fd.scope = sc ∧
    (∀ vs : List Value, vs.length = params.length → bindArgs fd ⟨vs, []⟩ = pure (params.zip vs))
  fn : sc.kind = .function
  co : sc.isCoroutine = false
  gen : sc.isGenerator = false
  par : ∀ x ∈ params, sc.names.lookup x = some .local ∨ sc.names.lookup x = some .cell
  nd : params.Nodup
  nofree : ∀ y ∈ sc.names, y.2 ≠ .free
  nodbg : ∀ y ∈ sc.names, Mine.dbg y.1 = false
section
variable {prog : Program} {w : World} {hB : Heap} {ad : Str → Addr} {n : Nat}
theorem zip_sg {ds : List PyData} {params : List Str} {x : Str} {sl : Slot} : Sg.get (params.zip (ds.map Slot.sh)) x = some sl → ∃ (i : Nat) (d : PyData), params[i]? = some x ∧ ds[i]? = some d ∧ sl = .sh d := by
  induction params generalizing ds with
  | nil => intro h; simp [Sg.get] at h
  | cons y ps ih =>
    intro h
    cases ds with
    | nil => simp [Sg.get] at h
    | cons d ds =>
      simp only [List.map_cons, List.zip_cons_cons] at h
      unfold Sg.get at h
      split at h
      · rename_i e; cases h; exact ⟨0, d, by simp [e], rfl, rfl⟩
      · obtain ⟨i, d, h1, h2, h3⟩ := ih h
        exact ⟨i + 1, d, by simpa using h1, by simpa using h2, h3⟩
/-- a def, entered: the frame -/
theorem enter_frame {fa : Addr} {params : List Str} {sc : Scope} {body : List Stmt} (D : DefAt hB fa params sc body) (B : Base prog w hB) {A : Around} {s : Shared} {fz : PH} {vs : List Value} (a : AOK 0 A) (st : St hB fz s) (hlen : vs.length = params.length) {R : Result → Shared → Prop}
    (h : ∀ (env : Env) (s₁ : Shared) (m cm : Str → Option Value), EnvOK (fun x => sc.names.lookup x) env → env.locals = s.heap.objs.size → InCallC s env.locals m env.cells cm s₁ →
      (∀ x v, (x, v) ∈ params.zip vs → VarAt s₁.heap env x v) →
      wpAny (model prog w) (A.deeper env) (execs body env) (fun f s' => R (.ok (.ret (match f with | .ret v => v | _ => .none))) s')
        (fun e s' => wpAny (model prog w) (A.deeper env) (leaving env e) (fun _ s'' => R (.error e) s'') (fun e' s'' => R (.error e') s'') s') s₁) :
    codeAny (model prog w) A (.call (.ref fa) ⟨vs, []⟩) R s := by
  obtain ⟨o, fd, ho, hd, hcd, hb, hcl, hg, hbi, hsc, hbind⟩ := D.ex
  have hroom : A.depth < recursionLimit := by have := a.dp; (first | lia | omega)
  have hmap : (params.zip vs).map (·.1) = params := by
    rw [List.map_fst_zip]; (first | lia | omega)
  have par : ∀ x ∈ params.zip vs, sc.names.lookup x.1 = some .local ∨ sc.names.lookup x.1 = some .cell := fun x hx => D.par x.1 (by rw [← hmap]; exact List.mem_map_of_mem hx)
  refine codeAny_call_cells hroom (st.ext _ _ ho) hd (B.nolim.keeps st.ext) ?_ hb (hbind vs hlen) hcl (fun x hx => ?_) (fun s₁ x => ?_) (by rw [hsc]; exact D.co) (by rw [hsc]; exact D.gen) (by rw [hsc]; exact D.fn)
  · exact hcd.keeps st.ext
  · rw [hsc]
    rcases par x hx with q | q
    · exact .inl q
    · obtain ⟨c, hc⟩ := cellsFrom_mem sc.names (s.heap.objs.size + 1) [] x.1 (.inl (mem_of_lookup q))
      exact .inr ⟨q, by rw [hc]; rfl⟩
  · have kd : ∀ x, (callEnvC fd s.heap.objs.size fa).kindOf x = sc.names.lookup x := fun x => by rw [← hsc]; rfl
    refine h _ s₁ _ _ ⟨kd, by show fd.scope.kind = _; rw [hsc]; exact D.fn, fun x hx => ?_, hg, hbi, fun x hx => ?_⟩ rfl x fun y v hy => ?_
    · have hc : sc.names.lookup x = some .cell := by
        rcases hx with q | q
        · exact q
        · exact absurd rfl (D.nofree _ (mem_of_lookup q))
      show ∃ c, (cellsFrom (s.heap.objs.size + 1) fd.scope.names []).lookup x = some c
      rw [hsc]
      exact cellsFrom_mem _ _ _ _ (.inl (mem_of_lookup hc))
    · cases q : sc.names.lookup x with
      | none => exact absurd q hx
      | some k =>
        have := D.nodbg _ (mem_of_lookup q)
        unfold Mine.dbg at this
        simpa using this
    · rcases par _ hy with q | q
      · have hk := (kd y).trans q
        refine .inl ⟨hk, _, x.toInCall.ns, bindL_at (by rw [hmap]; exact D.nd) hy hk⟩
      · have hk := (kd y).trans q
        obtain ⟨c, hc⟩ := cellsFrom_mem sc.names (s.heap.objs.size + 1) [] y (.inl (mem_of_lookup q))
        have hc' : (callEnvC fd s.heap.objs.size fa).cells.lookup y = some c := by
          show (cellsFrom (s.heap.objs.size + 1) fd.scope.names []).lookup y = some c
          rw [hsc]; exact hc
        refine .inr ⟨.inl hk, c, hc', ?_⟩
        have := x.cell y c hc'
        rwa [bindC_at (by rw [hmap]; exact D.nd) hy (by rw [hk]; decide)] at this
theorem incall_fsim {s s₁ : Shared} {fz kp : PH} {env : Env} {m cm : Str → Option Value} {kd : KD} {σ : Sg} {ow : Str → Option Addr} (x : InCallC s env.locals m env.cells cm s₁) (hL : env.locals = s.heap.objs.size) (hi : Inn fz s.heap) (hk : ∀ a o, kp a = some o → s.heap.get? a = some o)
    (hown : ∀ x a, ow x = some a → (∃ o, s.heap.get? a = some o) ∧ kp a = none ∧ fz a = none) (howi : ∀ x y a, ow x = some a → ow y = some a → x = y)
    (sh : ∀ x d, isVar kd x = true → σ.get x = some (.sh d) → ∃ v, VarAt s₁.heap env x v ∧ Rd fz v d)
    (owv : ∀ x ds, isVar kd x = true → σ.get x = some (.own ds) → ∃ a vs, ow x = some a ∧ VarAt s₁.heap env x (.ref a) ∧ PlainL s₁.heap a vs ∧ vs.size ≤ 2 ^ 20 ∧ RdAll fz vs.toList ds) : FSim kp fz s fz ow kd env σ s₁ := by
  have out : ∀ a, s.heap.objs.size ≤ a → s.heap.get? a = none ∧ kp a = none ∧ fz a = none := fun a ha => by
    have h := Heap.get?_none_of_le (h := s.heap) ha
    refine ⟨h, ?_, PH.none_of hi h⟩
    cases q : kp a with
    | none => rfl
    | some o => rw [hk a o q] at h; cases h
  refine ⟨x.toInCall.same, fun a o q => x.toInCall.keep _ _ (hk a o q), PH.le.refl _, fun a o q => x.toInCall.keep _ _ (hi a o q), fun _ _ q => .inl q, ⟨m, x.toInCall.ns⟩, (out _ (Nat.le_of_eq hL.symm)).2, fun y c hc => ?_, fun y z c h1 h2 => name_of_addr x.apart (mem_of_lookup h1) (mem_of_lookup h2), fun y a ha => ?_, howi, sh, owv⟩
  · have h1 := x.above y c (mem_of_lookup hc)
    have h2 := out c (hL ▸ Nat.le_of_lt h1)
    exact ⟨⟨_, x.cell y c hc⟩, h2.2.1, h2.2.2, Nat.ne_of_gt h1⟩
  · obtain ⟨⟨o, ho⟩, h1, h2⟩ := hown y a ha
    have hlt := Heap.lt_size ho
    refine ⟨⟨o, x.toInCall.keep _ _ ho⟩, h1, h2, hL ▸ Nat.ne_of_lt hlt, fun z c hc => ?_⟩
    exact Nat.ne_of_gt (Nat.lt_trans hlt (hL ▸ x.above z c (mem_of_lookup hc)))
/-- a def of the text does what its body's words say -/
theorem fun_sound {f : Str} {params : List Str} {sc : Scope} {body : List Stmt} {N : Nat} {ds : List PyData} {d : PyData} (B : Base prog w hB) (D : DefAt hB (ad f) params sc body) (hlen : ds.length = params.length)
    (h : wpSs (wpS (semC prog w hB ad n) (fun x => sc.names.lookup x) N) body (params.zip (ds.map .sh)) fun fl _ => match fl with | .nxt => d = .none | .ret r => r = d) :
    CallAt prog w hB (n + 2) (ad f) ds d := by
  intro A s fz vs Q E a st rds hQ
  have hl := rds.length
  refine wpAny_call (enter_frame D B (a.le (Nat.zero_le _)) st (by (first | lia | omega)) fun env s₁ m cm ok hL x hv => ?_)
  have F : FSim (fun b => s.heap.get? b) fz s fz (fun _ => none) (fun x => sc.names.lookup x) env (params.zip (ds.map .sh)) s₁ := by
    refine incall_fsim x hL st.sub (fun _ _ q => q) (fun _ _ h => nomatch h) (fun _ _ _ h => nomatch h) (fun y d hy hg => ?_) fun y ds' hy hg => ?_
    · obtain ⟨i, d', h1, h2, h3⟩ := zip_sg hg
      cases h3
      obtain ⟨v, hvi, rv⟩ := rds.get h2
      refine ⟨v, hv y v ?_, rv⟩
      exact List.mem_of_getElem? (i := i) (by rw [List.getElem?_zip_eq_some]; exact ⟨h1, hvi⟩)
    · obtain ⟨i, d', _, _, h3⟩ := zip_sg hg
      cases h3
  have done : ∀ {fz' ow' σ' s' v d'}, FSim (fun b => s.heap.get? b) fz s fz' ow' (fun x => sc.names.lookup x) env σ' s' → Rd fz' v d' → d' = d → Q v s' := fun F' rd e => by
    subst e
    exact hQ _ _ _ ⟨F'.same, F'.keep, F'.le, F'.sub, F'.new⟩ rd
  refine sems_sound (wpS_sound B N) (a.deeper) ok (fun a o q => st.base a o q) h F ⟨fun fz' ow' σ' s' F' e => ?_, fun fz' ow' σ' s' v d' F' rd e => ?_⟩
  · exact done F' .none e.symm
  · exact done F' rd e
end
end Mine
end
section
open PySem PySem.W PyProof.Rows PySem.Spec PySem.Calls
namespace Mine
section
variable {prog : Program} {w : World} {hB : Heap} {ad : Str → Addr} {n : Nat}
theorem Sg.get_cons {x y : Str} {v : Slot} {r : Sg} : Sg.get ((y, v) :: r) x = if x = y then some v else Sg.get r x := rfl
/-- a def that turns its first argument in its second statement, and gives a number -/
theorem mfun_sound {f p x : Str} {ps : List Str} {sc : Scope} {e1 e2 i : Expr} {q0 q1 q2 q3 q4 : Pos} {rest : List Stmt} {N : Nat} {xs ds xs' : List PyData} {m : Int} (B : Base prog w hB)
    (D : DefAt hB (ad f) (p :: ps) sc (.Assign [.Name x q0] e1 q1 :: .Assign [.Subscript (.Name p q2) i q3] e2 q4 :: rest)) (hlen : ds.length = ps.length)
    (hx : canStore (fun x => sc.names.lookup x) x = true) (hp : isVar (fun x => sc.names.lookup x) p = true) (hne : x ≠ p) (c1 : notComp e1 = true) (c2 : notComp e2 = true)
    (h : (wpN (semC prog w hB ad n) 20).e (fun x => sc.names.lookup x) e1 ((p, .own xs) :: ps.zip (ds.map .sh)) fun d1 =>
      (wpN (semC prog w hB ad n) 20).e (fun x => sc.names.lookup x) e2 (Sg.set ((p, .own xs) :: ps.zip (ds.map .sh)) x (.sh d1)) fun d2 =>
      (wpN (semC prog w hB ad n) 20).e (fun x => sc.names.lookup x) i (Sg.set ((p, .own xs) :: ps.zip (ds.map .sh)) x (.sh d1)) fun j => asInt j fun j => 0 ≤ j ∧ j < xs.length ∧ xs' = xs.set j.toNat d2 ∧
        wpSs (wpS (semC prog w hB ad n) (fun x => sc.names.lookup x) N) rest (Sg.frz [p] (Sg.set (Sg.set ((p, .own xs) :: ps.zip (ds.map .sh)) x (.sh d1)) p (.own xs'))) fun fl _ => match fl with | .nxt => False | .ret r => r = .int m) :
    MCallAt prog w hB (n + 2) (ad f) xs ds (.int m) xs' := by
  intro A s fz l us vs Q E a st rds hfl pl hz rus hQ
  have hl := rds.length
  have SR := wpN_sound (ad := ad) (n := n) B 20
  obtain ⟨ol, hol⟩ : ∃ o, s.heap.get? l = some o := let ⟨o, _, ho, _⟩ := pl; ⟨o, ho⟩
  refine wpAny_call (enter_frame D B (a.le (Nat.zero_le _)) st (by simp; (first | lia | omega)) fun env s₁ mm cm ok hL xx hv => ?_)
  have a1 : AOK (n + 1) (A.deeper env) := a.deeper
  have F : FSim (fun b => if b = l then none else s.heap.get? b) fz s fz (fun y => if y = p then some l else none) (fun x => sc.names.lookup x) env ((p, .own xs) :: ps.zip (ds.map .sh)) s₁ := by
    refine incall_fsim xx hL st.sub (fun b o q => ?_) (fun y b h => ?_) (fun y z b h1 h2 => ?_) (fun y d hy hg => ?_) fun y ds' hy hg => ?_
    · split at q
      · cases q
      · exact q
    · split at h
      · cases h; exact ⟨⟨_, hol⟩, if_pos rfl, hfl⟩
      · cases h
    · split at h1
      · rename_i e1
        split at h2
        · rename_i e2; rw [e1, e2]
        · cases h2
      · cases h1
    · rw [Sg.get_cons] at hg
      split at hg
      · cases hg
      · obtain ⟨i, d', h1, h2, h3⟩ := zip_sg hg
        cases h3
        obtain ⟨v, hvi, rv⟩ := rds.get h2
        refine ⟨v, hv y v ?_, rv⟩
        refine List.mem_cons_of_mem _ (List.mem_of_getElem? (l := ps.zip vs) (i := i) ?_)
        rw [List.getElem?_zip_eq_some]; exact ⟨h1, hvi⟩
    · rw [Sg.get_cons] at hg
      split at hg
      · rename_i e; cases hg; subst e
        refine ⟨l, us, if_pos rfl, hv _ _ (by simp), ?_, hz, rus⟩
        obtain ⟨o, nn, ho, r⟩ := pl
        exact ⟨o, nn, xx.toInCall.keep _ _ ho, r⟩
      · obtain ⟨i, d', _, _, h3⟩ := zip_sg hg
        cases h3
  have hb : ∀ a o, hB.get? a = some o → fz a = some o := st.base
  refine wpAny_execs_cons (wpAny_Assign_Name (SR.e _ _ _ _ _ _ _ _ _ _ h a1 ok (F.st hb) F.rel fun v1 d1 fz1 s2 g1 r1 h => ?_) (swapsWith_plain c1))
  refine store_sh hx ok (F.grow g1) r1 fun s3 F3 _ _ => ?_
  refine wpAny_execs_cons (wpAny_Assign_Subscript (SR.e _ _ _ _ _ _ _ _ _ _ h a1 ok (F3.st hb) F3.rel fun v2 d2 fz4 s4 g4 r4 h => ?_) (swapsWith_plain c2))
  have F4 := F3.grow g4
  have hgp : Sg.get (Sg.set ((p, .own xs) :: ps.zip (ds.map .sh)) x (.sh d1)) p = some (.own xs) := by
    rw [Sg.get_set, if_neg (Ne.symm hne), Sg.get_cons, if_pos rfl]
  have howp : owNo (fun y => if y = p then some l else none) x p = some l := by
    unfold owNo; rw [if_neg (Ne.symm hne)]; exact if_pos rfl
  obtain ⟨l', vs', ho', va, p', z', r'⟩ := F4.owv p xs hp hgp
  rw [howp] at ho'; cases ho'
  refine name_var ok hp va (SR.e _ _ _ _ _ _ _ _ _ _ h a1 ok (F4.st hb) F4.rel fun u j fz5 s5 g5 ru h => ?_)
  cases ru <;> first | exact h.elim | skip
  rename_i j t
  obtain ⟨h0, h1, hxs, h⟩ := h
  have F5 := F4.grow g5
  have hlen' := r'.length
  rw [Array.length_toList] at hlen'
  refine set_plain (p'.keeps g5.ext) h0 (by (first | lia | omega)) (by (first | lia | omega)) fun h' p6 hs => ?_
  have hr6 : RdAll fz5 (vs'.setIfInBounds j.toNat v2).toList xs' := by rw [hxs, Array.toList_setIfInBounds]; exact (r'.mono g5.le).set _ (r4.mono g5.le)
  have hz6 : (vs'.setIfInBounds j.toNat v2).size ≤ 2 ^ 20 := by rw [Array.size_setIfInBounds]; exact z'
  have F6 := F5.turn (tk := s5.toks) (vs' := vs'.setIfInBounds j.toNat v2) (ds' := xs') hp hgp howp (va.ext g5.ext) (SameBut.ext hs) p6 hz6 hr6
  obtain ⟨_, hkl, hfl5, hll, hlc⟩ := F6.own p l howp
  obtain ⟨fz7, le7, F7⟩ := F6.frz [p]
  obtain ⟨o6, n6, ho6, q6⟩ := p6
  have F8 : FSim (fun b => if b = l then h'.get? l else if b = l then none else s.heap.get? b) fz7 s fz7 (fun y => if y ∈ [p] then none else owNo (fun y => if y = p then some l else none) x y) (fun x => sc.names.lookup x) env (Sg.frz [p] (Sg.set (Sg.set ((p, .own xs) :: ps.zip (ds.map .sh)) x (.sh d1)) p (.own xs'))) { s5 with heap := h', toks := s5.toks } := by
    refine ⟨F7.same, fun b o q => ?_, PH.le.refl _, F7.sub, fun _ _ q => .inl q, F7.loc, ⟨?_, F7.locn.2⟩, fun y c hc => ?_, F7.celi, fun y b hy => ?_, F7.owi, F7.sh, F7.owv⟩
    · split at q
      · rename_i e; rw [e]; exact q
      · rename_i e
        exact F7.keep b o ((if_neg e).trans q)
    · have := F7.locn.1
      rw [if_neg (Ne.symm hll)]; exact this
    · obtain ⟨q1, q2, q3⟩ := F7.cel y c hc
      refine ⟨q1, ?_, q3⟩
      rw [if_neg (hlc y c hc)]; exact q2
    · split at hy
      · cases hy
      · rename_i hyp
        exfalso
        unfold owNo at hy
        split at hy
        · cases hy
        · have hy : (if y = p then some l else none) = some b := hy
          split at hy
          · rename_i e; exact hyp (by simp [e])
          · cases hy
  show wpAny _ _ (execs rest env) _ _ _
  refine sems_sound (wpS_sound B N) a1 ok (fun b o q => F7.le _ _ (hb b o q)) h F8 ⟨fun _ _ _ _ _ e => e.elim, fun fz9 ow9 σ9 s9 v d F9 rd e => ?_⟩
  subst e
  refine hQ v fz5 s9 (vs'.setIfInBounds j.toNat v2) F9.same (fun b o hbl q => F9.keep b o ?_) F5.le (fun b o q => F9.sub _ _ (F9.le _ _ (le7 _ _ q))) (fun b o q => ?_) ⟨o6, n6, F9.keep _ _ ?_, q6⟩ hz6 hr6 ?_
  · rw [if_neg hbl, if_neg hbl]; exact q
  · rcases F5.new b o q with y | y
    · exact .inl y
    · have : b ≠ l := fun e => by rw [e, hfl5] at q; cases q
      rw [if_neg this] at y
      exact .inr ⟨this, y⟩
  · rw [if_pos rfl]; exact ho6
  · cases rd; exact .int _ _
end
end Mine
end
section
open PySem PySem.W PyProof.Rows PySem.Spec PySem.Calls
namespace Mine
theorem ofS_inj (a b : String) : (Str.ofString a = Str.ofString b) ↔ a = b := by
  refine ⟨fun h => ?_, fun h => by rw [h]⟩
  rw [Str.ofString_eq_toList, Str.ofString_eq_toList] at h
  have h1 : a.toList.map Char.toNat = b.toList.map Char.toNat := by
    have := congrArg Str.cps h
    simpa using this
  have h2 : a.toList = b.toList := by
    refine List.map_inj_right (f := Char.toNat) (fun x y e => ?_) |>.mp h1
    exact Char.ext (UInt32.toNat.inj e)
  rw [← String.ofList_toList (s := a), h2, String.ofList_toList]
theorem ofS_beq (a b : String) : (Str.ofString a == Str.ofString b) = decide (a = b) := by
  rw [Bool.eq_iff_iff]; simp [ofS_inj]
structure Fn where
  name : Str
  params : List Str
  scope : Scope
  body : List Stmt
noncomputable def fnOf : Stmt → Option Fn
  | .FunctionDef name args body _ _ _ scope _ _ _ => some ⟨name, args.args.map (·.arg), scope, body⟩
  | _ => none
noncomputable def fnAt (k : Nat) : Option Fn := PySem.Challenge.pw_xm0100_01.main.body[k]?.bind fnOf
noncomputable def kdOf (l : List (Str × NameKind)) : KD := fun x => l.lookup x
theorem kdOf_at (l : List (Str × NameKind)) (x : Str) : kdOf l x = l.lookup x := rfl
/-- what a body gives at its arguments -/
noncomputable def Gives (C : Ctx) (k : Nat) (ds : List PyData) (d : PyData) : Prop :=
  ∃ F, fnAt k = some F ∧ ds.length = F.params.length ∧ wpSs (wpS C (kdOf F.scope.names) 9) F.body (F.params.zip (ds.map .sh)) fun fl _ => match fl with | .nxt => d = .none | .ret r => r = d
section
variable {C : Ctx} {kd : KD} {N : Nat} {rest : List Stmt} {σ : Sg} {k : Fl → Sg → Prop}
theorem st_nil (h : k .nxt σ) : wpSs (wpS C kd N) [] σ k := h
theorem st_assign {x : Str} {e : Expr} {p q : Pos} (h : wpVal (wpN C 20) kd e (σ.frz (escE 20 e)) fun v => wpSs (wpS C kd (N + 1)) rest ((σ.frz (escE 20 e)).set x v) k) (h1 : canStore kd x = true := by kernel_rfl) (h2 : notComp e = true := by kernel_rfl) :
    wpSs (wpS C kd (N + 1)) (.Assign [.Name x p] e q :: rest) σ k := by
  have hh := And.intro h1 (And.intro h2 h)
  cases e <;> first | exact hh | exact nomatch h2
theorem st_comp {x : Str} {elt target iter : Expr} {ifs : List Expr} {scope : Scope} {cp p q : Pos} (h : wpComp (wpN C 20) kd elt target iter ifs scope σ fun d => wpSs (wpS C kd (N + 1)) rest (σ.set x (.sh d)) k) (h1 : canStore kd x = true := by kernel_rfl) :
    wpSs (wpS C kd (N + 1)) (.Assign [.Name x p] (.ListComp elt [⟨target, iter, ifs, 0⟩] scope cp) q :: rest) σ k := ⟨h1, h⟩
theorem st_par {ts es : List Expr} {n m : Nat} {p p' q : Pos} (h : wpVals (wpN C 20) kd es (σ.frz (es.flatMap (escE 20))) fun vs => ∃ σ', setAll kd ts vs (σ.frz (es.flatMap (escE 20))) = some σ' ∧ wpSs (wpS C kd (N + 1)) rest σ' k) (h1 : decide (ts.length ≤ 20) = true := by kernel_rfl) (h2 : ts.length = es.length := by kernel_rfl) (h3 : es.all (constantsAlone 8) = false := by kernel_rfl) (h4 : dupFree ts = true := by kernel_rfl) :
    wpSs (wpS C kd (N + 1)) (.Assign [.Tuple ts n p] (.Tuple es m p') q :: rest) σ k := ⟨of_decide_eq_true h1, h2, h3, h4, h⟩
theorem st_call {ts args : List Expr} {f : Expr} {n : Nat} {p p' q : Pos} (h : (wpN C 20).e kd (.Call f args [] p') (σ.frz (escE 20 (.Call f args [] p'))) fun d => asTup d fun ds => ∃ σ', setAll kd ts (ds.map .sh) (σ.frz (escE 20 (.Call f args [] p'))) = some σ' ∧ wpSs (wpS C kd (N + 1)) rest σ' k) :
    wpSs (wpS C kd (N + 1)) (.Assign [.Tuple ts n p] (.Call f args [] p') q :: rest) σ k := h
theorem st_item {x : Str} {i e : Expr} {p p' q : Pos} (h : ∃ ds, (σ.frz (escE 20 e)).get x = some (.own ds) ∧ (wpN C 20).e kd e (σ.frz (escE 20 e)) fun d => (wpN C 20).e kd i (σ.frz (escE 20 e)) fun j => asInt j fun j => 0 ≤ j ∧ j < ds.length ∧ wpSs (wpS C kd (N + 1)) rest ((σ.frz (escE 20 e)).set x (.own (ds.set j.toNat d))) k) (h1 : isVar kd x = true := by kernel_rfl) (h2 : notComp e = true := by kernel_rfl) :
    wpSs (wpS C kd (N + 1)) (.Assign [.Subscript (.Name x p) i p'] e q :: rest) σ k := ⟨h1, h2, h⟩
theorem st_aug {x : Str} {e : Expr} {p q : Pos} (h : shName x σ fun a => (wpN C 20).e kd e σ fun b => asInt a fun i => asInt b fun j => wpSs (wpS C kd (N + 1)) rest (σ.set x (.sh (.int (i - j)))) k) (h1 : canStore kd x = true := by kernel_rfl) :
    wpSs (wpS C kd (N + 1)) (.AugAssign (.Name x p) .Sub e q :: rest) σ k := ⟨h1, h⟩
theorem st_ret {e : Expr} {q : Pos} (h : (wpN C 20).e kd e (σ.frz (escE 20 e)) fun d => k (.ret d) (σ.frz (escE 20 e))) : wpSs (wpS C kd (N + 1)) (.Return (some e) q :: rest) σ k := h
theorem st_append {x : Str} {e : Expr} {p ap cp q : Pos} (h : (∃ ds, (σ.frz (escE 20 e)).get x = some (.own ds)) ∧ (wpN C 20).e kd e (σ.frz (escE 20 e)) fun d => ∃ ds, (σ.frz (escE 20 e)).get x = some (.own ds) ∧ ds.length < 2 ^ 20 ∧ wpSs (wpS C kd (N + 1)) rest ((σ.frz (escE 20 e)).set x (.own (ds ++ [d]))) k)
      (h1 : (ap.endLine == cp.line) = true := by kernel_rfl) (h2 : notStar e = true := by kernel_rfl) (h3 : isVar kd x = true := by kernel_rfl) :
    wpSs (wpS C kd (N + 1)) (.Expr (.Call (.Attribute (.Name x p) (Str.ofString "append") ap) [e] [] cp) q :: rest) σ k := ⟨rfl, h1, h2, h3, .inr h⟩
theorem st_appmut {x : Str} {e : Expr} {p ap cp q : Pos} (h : (∃ ds, σ.get x = some (.own ds)) ∧ wpMut C (wpN C 20) kd e σ (fun d σ' => ∃ ds, σ'.get x = some (.own ds) ∧ ds.length < 2 ^ 20 ∧ wpSs (wpS C kd (N + 1)) rest (σ'.set x (.own (ds ++ [d]))) k))
      (h1 : (ap.endLine == cp.line) = true := by kernel_rfl) (h2 : notStar e = true := by kernel_rfl) (h3 : isVar kd x = true := by kernel_rfl) :
    wpSs (wpS C kd (N + 1)) (.Expr (.Call (.Attribute (.Name x p) (Str.ofString "append") ap) [e] [] cp) q :: rest) σ k := ⟨rfl, h1, h2, h3, .inl h⟩
theorem st_expr {f : Str} {args : List Expr} {fp cp q : Pos} (h : (wpN C 20).e kd (.Call (.Name f fp) args [] cp) (σ.frz (escE 20 (.Call (.Name f fp) args [] cp))) fun d => match d with | .none => wpSs (wpS C kd (N + 1)) rest (σ.frz (escE 20 (.Call (.Name f fp) args [] cp))) k | _ => False) :
    wpSs (wpS C kd (N + 1)) (.Expr (.Call (.Name f fp) args [] cp) q :: rest) σ k := h
theorem wpSs_append {S : Stmt → Sg → (Fl → Sg → Prop) → Prop} : ∀ {body rest : List Stmt} {σ : Sg}, wpSs S (body ++ rest) σ k → wpSs S body σ fun f σ' => match f with | .nxt => wpSs S rest σ' k | .ret d => k (.ret d) σ'
  | [], _, _, h => h
  | st :: body, rest, σ, h => by
    have e : (fun (f : Fl) (σ' : Sg) => match f with | .nxt => wpSs S (body ++ rest) σ' k | .ret d => k (.ret d) σ') = fun f σ' => match f with | .nxt => wpSs S body σ' (fun f σ' => match f with | .nxt => wpSs S rest σ' k | .ret d => k (.ret d) σ') | .ret d => k (.ret d) σ' := by
      funext f σ'
      cases f with
      | ret d => rfl
      | nxt => exact propext ⟨wpSs_append, wpSs_append_back⟩
    show S st σ fun f σ' => match f with | .nxt => wpSs S body σ' (fun f σ' => match f with | .nxt => wpSs S rest σ' k | .ret d => k (.ret d) σ') | .ret d => k (.ret d) σ'
    rw [← e]; exact h
where
  wpSs_append_back {S : Stmt → Sg → (Fl → Sg → Prop) → Prop} : ∀ {body rest : List Stmt} {σ : Sg}, (wpSs S body σ fun f σ' => match f with | .nxt => wpSs S rest σ' k | .ret d => k (.ret d) σ') → wpSs S (body ++ rest) σ k
  | [], _, _, h => h
  | st :: body, rest, σ, h => by
    have e : (fun (f : Fl) (σ' : Sg) => match f with | .nxt => wpSs S (body ++ rest) σ' k | .ret d => k (.ret d) σ') = fun f σ' => match f with | .nxt => wpSs S body σ' (fun f σ' => match f with | .nxt => wpSs S rest σ' k | .ret d => k (.ret d) σ') | .ret d => k (.ret d) σ' := by
      funext f σ'
      cases f with
      | ret d => rfl
      | nxt => exact propext ⟨wpSs_append, wpSs_append_back⟩
    show S st σ fun f σ' => match f with | .nxt => wpSs S (body ++ rest) σ' k | .ret d => k (.ret d) σ'
    rw [e]; exact h
/-- the statements of the body go on with the rest; within, one level less is left -/
theorem st_if {test : Expr} {body orelse : List Stmt} {q : Pos} (h : (wpN C 20).t kd test (σ.frz (escE 20 test)) fun b =>
      (b = true → wpSs (wpS C kd N) body (σ.frz (escE 20 test)) fun f σ' => match f with | .nxt => wpSs (wpS C kd (N + 1)) rest σ' k | .ret d => k (.ret d) σ') ∧
      (b = false → wpSs (wpS C kd N) orelse (σ.frz (escE 20 test)) fun f σ' => match f with | .nxt => wpSs (wpS C kd (N + 1)) rest σ' k | .ret d => k (.ret d) σ')) : wpSs (wpS C kd (N + 1)) (.If test body orelse q :: rest) σ k := h
theorem st_for {target iter : Expr} {body : List Stmt} {q : Pos} (h : wpIter (wpN C 20) kd iter (σ.frz (escE 20 iter)) fun ds =>
      wpF (wpS C kd N) target body (fun f σ' => match f with | .nxt => wpSs (wpS C kd (N + 1)) rest σ' k | .ret d => k (.ret d) σ') ds (σ.frz (escE 20 iter))) (h1 : forOk kd target = true := by kernel_rfl) (h2 : plainIter iter = true := by kernel_rfl) (h3 : isTupT target = isEnumE kd iter := by kernel_rfl) : wpSs (wpS C kd (N + 1)) (.For target iter body [] q :: rest) σ k := ⟨h1, h2, h3, h⟩
theorem wpF_ind {S : Stmt → Sg → (Fl → Sg → Prop) → Prop} {target : Expr} {body : List Stmt} {ds : List PyData} (I : List PyData → Sg → Prop) (h0 : I ds σ) (hnil : ∀ σ, I [] σ → k .nxt σ)
    (hcons : ∀ d r σ, I (d :: r) σ → ∀ K : Sg → Prop, (∀ σ', I r σ' → K σ') → bindT target d σ fun σ' => wpSs S body σ' fun f σ'' => match f with | .nxt => K σ'' | .ret d => k (.ret d) σ'') : wpF S target body k ds σ := by
  induction ds generalizing σ with
  | nil => exact hnil σ h0
  | cons d r ih => exact hcons d r σ h0 _ fun σ' h => ih h
theorem wpW_ind {S : Stmt → Sg → (Fl → Sg → Prop) → Prop} {R : Rec} {test : Expr} {body : List Stmt} (I : Nat → Sg → Prop)
    (step : ∀ n σ, I n σ → ∀ K : Sg → Prop, (∀ n' σ', n' < n → I n' σ' → K σ') → R.t kd test σ fun b => (b = true → wpSs S body σ fun f σ' => match f with | .nxt => K σ' | .ret d => k (.ret d) σ') ∧ (b = false → k .nxt σ)) :
    ∀ (m n : Nat) (σ : Sg), n < m → I n σ → wpW R kd S test body k m σ
  | 0, n, σ, h, _ => absurd h (Nat.not_lt_zero n)
  | m + 1, n, σ, h, hi => step n σ hi _ fun n' σ' h' hi' => wpW_ind I step m n' σ' (by (first | lia | omega)) hi'
theorem st_while {test : Expr} {body : List Stmt} {q : Pos} (I : Nat → Sg → Prop) (n : Nat) (h0 : I n σ)
    (step : ∀ n σ, I n σ → ∀ K : Sg → Prop, (∀ n' σ', n' < n → I n' σ' → K σ') → (wpN C 20).t kd test σ fun b => (b = true → wpSs (wpS C kd N) body σ fun f σ' => match f with | .nxt => K σ' | .ret d => k (.ret d) σ') ∧ (b = false → wpSs (wpS C kd (N + 1)) rest σ k)) :
    wpSs (wpS C kd (N + 1)) (.While test body [] q :: rest) σ k :=
  ⟨n + 1, wpW_ind (k := fun f σ' => match f with | .nxt => wpSs (wpS C kd (N + 1)) rest σ' k | .ret d => k (.ret d) σ') I step (n + 1) n σ (Nat.lt_succ_self n) h0⟩
end
section
variable {C : Ctx} {R : Rec} {kd : KD} {σ : Sg} {k : PyData → Prop} {kb : Bool → Prop}
theorem wpN_e {n : Nat} {e : Expr} : (wpN C (n + 1)).e kd e σ k = stepE C (wpN C n) kd e σ k := rfl
theorem wpN_t {n : Nat} {e : Expr} : (wpN C (n + 1)).t kd e σ kb = stepT C (wpN C n) kd e σ kb := rfl
theorem e_const {c : Const} {n : Nat} {p : Pos} : stepE C R kd (.Constant c n p) σ k = constD c k := rfl
theorem c_int {i : Int} : constD (.int i) k = k (.int i) := rfl
theorem c_bool {b : Bool} : constD (.bool b) k = k (.bool b) := rfl
theorem c_none : constD .none k = k .none := rfl
theorem c_str {s : Str} : constD (.str s) k = k (.str s) := rfl
theorem e_name {x : Str} {p : Pos} : stepE C R kd (.Name x p) σ k = ((isVar kd x = true ∧ shName x σ k) ∨ (kd x = some .globalImplicit ∧ ∃ d, C.glob x d ∧ k d)) := rfl
theorem e_bin {l r : Expr} {op : Operator} {p : Pos} : stepE C R kd (.BinOp l op r p) σ k = wpBinE R kd l op r σ k := rfl
theorem e_neg {x : Expr} {p : Pos} : stepE C R kd (.UnaryOp .USub x p) σ k = (R.e kd x σ fun d => asInt d fun i => k (.int (-i))) := rfl
theorem e_ife {t b o : Expr} {p : Pos} : stepE C R kd (.IfExp t b o p) σ k = (R.t kd t σ fun c => (c = true → R.e kd b σ k) ∧ (c = false → R.e kd o σ k)) := rfl
theorem e_cmp {l r : Expr} {op : CmpOp} {p : Pos} : stepE C R kd (.Compare l [op] [r] p) σ k = (cmpOk op = true ∧ rdE R kd l σ fun a => rdE R kd r σ fun b => wpCmp op a b fun c => k (.bool c)) := rfl
theorem e_and {x y : Expr} {p : Pos} : stepE C R kd (.BoolOp .And [x, y] p) σ k = (R.e kd x σ fun d => asBool d fun b => (b = true → R.e kd y σ k) ∧ (b = false → k (.bool false))) := rfl
theorem e_tup {es : List Expr} {n : Nat} {p : Pos} : stepE C R kd (.Tuple es n p) σ k = (es.length ≤ 30 ∧ wpArgs R kd es σ fun ds => k (.tuple ds)) := rfl
theorem e_list {es : List Expr} {p : Pos} : stepE C R kd (.List es p) σ k = (es.length ≤ 30 ∧ wpArgs R kd es σ fun ds => k (.list ds)) := rfl
theorem e_sub {v sl : Expr} {p : Pos} : stepE C R kd (.Subscript v sl p) σ k = wpSub R kd v sl σ k := rfl
theorem e_call {f : Str} {args : List Expr} {p q : Pos} : stepE C R kd (.Call (.Name f p) args [] q) σ k = wpCallN C R kd f args σ k := rfl
theorem e_comp {elt target iter : Expr} {ifs : List Expr} {scope : Scope} {p : Pos} : stepE C R kd (.ListComp elt [⟨target, iter, ifs, 0⟩] scope p) σ k = wpComp R kd elt target iter ifs scope σ k := rfl
theorem t_cmp {l r : Expr} {op : CmpOp} {p : Pos} : stepT C R kd (.Compare l [op] [r] p) σ kb = (cmpOk op = true ∧ rdE R kd l σ fun a => rdE R kd r σ fun b => wpCmp op a b kb) := rfl
theorem t_and {x y : Expr} {p : Pos} : stepT C R kd (.BoolOp .And [x, y] p) σ kb = (R.t kd x σ fun b => (b = true → R.t kd y σ kb) ∧ (b = false → kb false)) := rfl
theorem t_or {x y : Expr} {p : Pos} : stepT C R kd (.BoolOp .Or [x, y] p) σ kb = (R.t kd x σ fun b => (b = true → kb true) ∧ (b = false → R.t kd y σ kb)) := rfl
theorem t_call {f : Str} {args : List Expr} {p q : Pos} : stepT C R kd (.Call (.Name f p) args [] q) σ kb = wpCallN C R kd f args σ fun d => asBool d kb := rfl
theorem asInt_i {i : Int} {k : Int → Prop} : asInt (.int i) k = k i := rfl
theorem asBool_b {b : Bool} {k : Bool → Prop} : asBool (.bool b) k = k b := rfl
theorem asList_l {ds : List PyData} {k : List PyData → Prop} : asList (.list ds) k = k ds := rfl
theorem asTup_t {ds : List PyData} {k : List PyData → Prop} : asTup (.tuple ds) k = k ds := rfl
theorem asSeq_l {ds : List PyData} {k : List PyData → Prop} : asSeq (.list ds) k = k ds := rfl
theorem asSeq_t {ds : List PyData} {k : List PyData → Prop} : asSeq (.tuple ds) k = k ds := rfl
theorem asStr_s {s : Str} {k : Prop} : asStr (.str s) k = k := rfl
theorem rdE_name {x : Str} {p : Pos} : rdE R kd (.Name x p) σ k = ((isVar kd x = true ∧ rdName x σ k) ∨ (isVar kd x = false ∧ R.e kd (.Name x p) σ k)) := rfl
theorem rdE_const {c : Const} {n : Nat} {p : Pos} : rdE R kd (.Constant c n p) σ k = R.e kd (.Constant c n p) σ k := rfl
theorem rdE_bin {l r : Expr} {op : Operator} {p : Pos} : rdE R kd (.BinOp l op r p) σ k = R.e kd (.BinOp l op r p) σ k := rfl
theorem rdE_neg {o : UnaryOp} {x : Expr} {p : Pos} : rdE R kd (.UnaryOp o x p) σ k = R.e kd (.UnaryOp o x p) σ k := rfl
theorem rdE_ife {t b o : Expr} {p : Pos} : rdE R kd (.IfExp t b o p) σ k = R.e kd (.IfExp t b o p) σ k := rfl
theorem rdE_tup {es : List Expr} {n : Nat} {p : Pos} : rdE R kd (.Tuple es n p) σ k = R.e kd (.Tuple es n p) σ k := rfl
theorem rdE_list {es : List Expr} {p : Pos} : rdE R kd (.List es p) σ k = R.e kd (.List es p) σ k := rfl
theorem rdE_sub {v sl : Expr} {p : Pos} : rdE R kd (.Subscript v sl p) σ k = R.e kd (.Subscript v sl p) σ k := rfl
theorem rdE_call {f : Expr} {args : List Expr} {ks : List Keyword} {p : Pos} : rdE R kd (.Call f args ks p) σ k = R.e kd (.Call f args ks p) σ k := rfl
theorem rdE_comp {elt : Expr} {gs : List Comprehension} {sc : Scope} {p : Pos} : rdE R kd (.ListComp elt gs sc p) σ k = R.e kd (.ListComp elt gs sc p) σ k := rfl
theorem rdN_sh {x : Str} {d : PyData} (h : σ.get x = some (.sh d)) : rdName x σ k = k d := by unfold rdName; rw [h]
theorem binAdd_i {x y : Int} : binAdd (.int x) (.int y) k = k (.int (x + y)) := rfl
theorem binAdd_l {x y : List PyData} : binAdd (.list x) (.list y) k = (x.length + y.length ≤ 2 ^ 20 ∧ k (.list (x ++ y))) := rfl
theorem binSub_i {x y : Int} : binSub (.int x) (.int y) k = k (.int (x - y)) := rfl
theorem binSub_b {x y : Bool} : binSub (.bool x) (.bool y) k = k (.int (b2i x - b2i y)) := rfl
theorem binMul_i {x y : Int} : binMul (.int x) (.int y) k = (Fit x ∧ Fit y ∧ k (.int (x * y))) := rfl
theorem bin_add {a b : PyData} : wpBin .Add a b k = binAdd a b k := rfl
theorem bin_sub {a b : PyData} : wpBin .Sub a b k = binSub a b k := rfl
theorem bin_mul {a b : PyData} : wpBin .Mult a b k = binMul a b k := rfl
theorem bin_div {a b : PyData} : wpBin .FloorDiv a b k = (asInt a fun x => asInt b fun y => y ≠ 0 ∧ Fit y ∧ k (.int (x.fdiv y))) := rfl
theorem bin_mod {a b : PyData} : wpBin .Mod a b k = (asInt a fun x => asInt b fun y => y ≠ 0 ∧ k (.int (x.fmod y))) := rfl
theorem bin_pow {a b : PyData} : wpBin .Pow a b k = (asInt a fun x => asInt b fun y => 0 ≤ y ∧ y ≤ 1000 ∧ Fit x ∧ k (.int (x ^ y.toNat))) := rfl
theorem eqD_i {x y : Int} : eqD (.int x) (.int y) kb = kb (decide (x = y)) := rfl
theorem eqD_t {x : List PyData} {b : PyData} : eqD (.tuple x) b kb = (SeqAt.shaped (.tuple x) = true ∧ SeqAt.shaped b = true ∧ kb (PyData.eqv (.tuple x) b)) := rfl
theorem eqD_l {x : List PyData} {b : PyData} : eqD (.list x) b kb = (SeqAt.shaped (.list x) = true ∧ SeqAt.shaped b = true ∧ kb (PyData.eqv (.list x) b)) := rfl
theorem eqD_s {x : Str} {b : PyData} : eqD (.str x) b kb = (SeqAt.shaped (.str x) = true ∧ SeqAt.shaped b = true ∧ kb (PyData.eqv (.str x) b)) := rfl
theorem cmp_eq {a b : PyData} : wpCmp .Eq a b kb = eqD a b kb := rfl
theorem cmp_ne {a b : PyData} : wpCmp .NotEq a b kb = eqD a b fun c => kb (!c) := rfl
theorem cmp_lt {a b : PyData} : wpCmp .Lt a b kb = (asInt a fun x => asInt b fun y => kb (decide (x < y))) := rfl
theorem cmp_gt {a b : PyData} : wpCmp .Gt a b kb = (asInt a fun x => asInt b fun y => kb (decide (y < x))) := rfl
theorem cmp_le {a b : PyData} : wpCmp .LtE a b kb = (asInt a fun x => asInt b fun y => kb (decide (x ≤ y))) := rfl
theorem cmp_ge {a b : PyData} : wpCmp .GtE a b kb = (asInt a fun x => asInt b fun y => kb (decide (y ≤ x))) := rfl
end
/-- bits -/
noncomputable def Sz (k : Nat) (x : Int) : Prop := x.natAbs < 2 ^ k
theorem Sz.fit {k : Nat} {x : Int} (h : Sz k x) (hk : k ≤ 4000 := by (first | lia | omega)) : Fit x := Nat.lt_of_lt_of_le h (Nat.pow_le_pow_right (by (first | lia | omega)) hk)
theorem Sz.le {k m : Nat} {x : Int} (h : Sz k x) (hk : k ≤ m := by (first | lia | omega)) : Sz m x := Nat.lt_of_lt_of_le h (Nat.pow_le_pow_right (by (first | lia | omega)) hk)
theorem Sz.mul {k m : Nat} {x y : Int} (h : Sz k x) (g : Sz m y) : Sz (k + m) (x * y) := by
  unfold Sz at *
  rw [Int.natAbs_mul, Nat.pow_add]
  exact Nat.mul_lt_mul'' h g
theorem Sz.add {k : Nat} {x y : Int} (h : Sz k x) (g : Sz k y) : Sz (k + 1) (x + y) := by
  unfold Sz at *
  have := Int.natAbs_add_le x y
  rw [Nat.pow_succ]; (first | lia | omega)
theorem Sz.sub {k : Nat} {x y : Int} (h : Sz k x) (g : Sz k y) : Sz (k + 1) (x - y) := by
  unfold Sz at *
  have := Int.natAbs_sub_le x y
  rw [Nat.pow_succ]; (first | lia | omega)
theorem Sz.neg {k : Nat} {x : Int} (h : Sz k x) : Sz k (-x) := by
  unfold Sz at *
  rwa [Int.natAbs_neg]
theorem Sz.zero {k : Nat} : Sz k 0 := Nat.two_pow_pos k
theorem Sz.one {k : Nat} : Sz (k + 1) 1 := by
  unfold Sz
  have := Nat.two_pow_pos k
  rw [Nat.pow_succ]
  show 1 < _
  (first | lia | omega)
theorem Fit.zero : Fit 0 := by unfold Fit; exact Nat.two_pow_pos _
theorem Fit.one : Fit 1 := (Sz.one (k := 0)).fit
section
variable {k : Fl → Sg → Prop}
theorem wpF_idx {S : Stmt → Sg → (Fl → Sg → Prop) → Prop} {target : Expr} {body : List Stmt} (ds : List PyData) (I : Nat → Sg → Prop) {σ : Sg} (h0 : I 0 σ) (hend : ∀ σ, I ds.length σ → k .nxt σ)
    (hstep : ∀ i d σ, i < ds.length → ds[i]? = some d → I i σ → ∀ K : Sg → Prop, (∀ σ', I (i + 1) σ' → K σ') → bindT target d σ fun σ' => wpSs S body σ' fun f σ'' => match f with | .nxt => K σ'' | .ret d => k (.ret d) σ'') : wpF S target body k ds σ := by
  refine wpF_ind (fun r σ => ∃ i, i ≤ ds.length ∧ r = ds.drop i ∧ I i σ) ⟨0, Nat.zero_le _, rfl, h0⟩ (fun σ h => ?_) fun d r σ h K hK => ?_
  · obtain ⟨i, hi, hr, hI⟩ := h
    have : ds.length ≤ i := List.drop_eq_nil_iff.mp hr.symm
    have : i = ds.length := by (first | lia | omega)
    exact hend σ (this ▸ hI)
  · obtain ⟨i, hi, hr, hI⟩ := h
    have hlt : i < ds.length := by
      rcases Nat.lt_or_ge i ds.length with q | q
      · exact q
      · rw [List.drop_eq_nil_of_le q] at hr; cases hr
    rw [List.drop_eq_getElem_cons hlt] at hr
    injection hr with h1 h2
    exact hstep i d σ hlt (by rw [h1]; exact List.getElem?_eq_getElem hlt) hI K fun σ' hI' => hK σ' ⟨i + 1, hlt, h2, hI'⟩
theorem wpF_range {S : Stmt → Sg → (Fl → Sg → Prop) → Prop} {target : Expr} {body : List Stmt} (f : Nat → PyData) (n : Nat) (I : Nat → Sg → Prop) {σ : Sg} (h0 : I 0 σ) (hend : ∀ σ, I n σ → k .nxt σ)
    (hstep : ∀ i σ, i < n → I i σ → ∀ K : Sg → Prop, (∀ σ', I (i + 1) σ' → K σ') → bindT target (f i) σ fun σ' => wpSs S body σ' fun f σ'' => match f with | .nxt => K σ'' | .ret d => k (.ret d) σ'') : wpF S target body k ((List.range n).map f) σ := by
  refine wpF_idx _ I h0 (fun σ h => hend σ (by simpa using h)) fun i d σ hi hd hI K hK => ?_
  have hi' : i < n := by simpa using hi
  simp [hi'] at hd
  subst hd
  exact hstep i σ hi' hI K hK
end
theorem frz_nil : ∀ (σ : Sg), Sg.frz [] σ = σ
  | [] => rfl
  | (y, v) :: r => by simp [Sg.frz, frz_nil r]
noncomputable abbrev q1 (a : Int) : PyData := .tuple [.int a, .int 1]
noncomputable abbrev ql (xs : List Int) : PyData := .list (xs.map q1)
noncomputable abbrev zl (xs : List Int) : PyData := .list (xs.map PyData.int)
theorem pyAt_0 {x : PyData} {r : List PyData} : pyAt (x :: r) 0 = some x := rfl
theorem pyAt_1 {x y : PyData} {r : List PyData} : pyAt (x :: y :: r) 1 = some y := rfl
theorem pyAt_map {f : Int → PyData} {xs : List Int} {j : Int} (h0 : 0 ≤ j) (h : j < xs.length) : pyAt (xs.map f) j = some (f (xs.getD j.toNat 0)) := by
  unfold pyAt
  have : j.toNat < xs.length := by (first | lia | omega)
  simp [h0, this]
theorem pyAt_mem {ds : List PyData} {j : Int} (h0 : 0 ≤ j) (h : j < ds.length) : ∃ x, pyAt ds j = some x ∧ ds[j.toNat]? = some x := by
  unfold pyAt
  have : j.toNat < ds.length := by (first | lia | omega)
  simp [h0, this]
theorem pyAt_last {f : Int → PyData} {xs : List Int} (h : xs ≠ []) : pyAt (xs.map f) (-1) = some (f (xs.getD (xs.length - 1) 0)) := by
  unfold pyAt
  have : 0 < xs.length := List.length_pos_iff.mpr h
  have h1 : (-1 + ((xs.map f).length : Int)).toNat = xs.length - 1 := by simp; (first | lia | omega)
  have h2 : (0 : Int) ≤ -1 + ((xs.map f).length : Int) := by simp; (first | lia | omega)
  have h3 : xs.length - 1 < xs.length := by (first | lia | omega)
  rw [if_neg (by (first | lia | omega)), if_pos h2, h1]
  simp [h3]
theorem eqv_q1 (x y : Int) : PyData.eqv (q1 x) (q1 y) = decide (x = y) := by
  simp only [PyData.eqv, PyData.eqvAll]
  by_cases h : x = y <;> simp [h]
theorem froze_sh {d : PyData} : Slot.froze (.sh d) = .sh d := rfl
theorem froze_own {ds : List PyData} : Slot.froze (.own ds) = .sh (.list ds) := rfl
theorem nk_l : (NameKind.local == NameKind.free) = false := rfl
theorem nk_c : (NameKind.cell == NameKind.free) = false := rfl
theorem nk_g : (NameKind.globalImplicit == NameKind.free) = false := rfl
theorem nk_f : (some NameKind.free == some NameKind.cell) = false := rfl
theorem filter_T {α : Type} (l : List α) : l.filter (fun _ => true) = l := by simp
theorem toNat_ofNat (i : Nat) : ((i : Int)).toNat = i := rfl
theorem shaped_q1 (x : Int) : SeqAt.shaped (q1 x) = true := by
  simp [SeqAt.shaped, PyData.canLay0, PyData.canLayAll0, PyData.depth, PyData.depthAll]
theorem canLay_all {f : Int → PyData} (hf : ∀ x, (f x).canLay0 = true) : ∀ xs : List Int, PyData.canLayAll0 (xs.map f) = true
  | [] => rfl
  | x :: xs => by simp [PyData.canLayAll0, hf, canLay_all hf xs]
theorem depth_all {f : Int → PyData} {n : Nat} (hf : ∀ x, (f x).depth ≤ n) : ∀ xs : List Int, PyData.depthAll (xs.map f) ≤ n
  | [] => Nat.zero_le _
  | x :: xs => by
    have h1 := hf x
    have h2 := depth_all hf xs
    simp only [List.map_cons, PyData.depthAll]; (first | lia | omega)
theorem shaped_ql (xs : List Int) : SeqAt.shaped (ql xs) = true := by
  have h1 := canLay_all (f := q1) (fun x => rfl) xs
  have h2 := depth_all (f := q1) (n := 1) (fun x => Nat.le_refl _) xs
  simp only [SeqAt.shaped, PyData.canLay0, PyData.depth, h1, Bool.true_and]
  exact decide_eq_true (by (first | lia | omega))
theorem shaped_zl (xs : List Int) : SeqAt.shaped (zl xs) = true := by
  have h1 := canLay_all (f := PyData.int) (fun x => rfl) xs
  have h2 := depth_all (f := PyData.int) (n := 1) (fun x => Nat.zero_le _) xs
  simp only [SeqAt.shaped, PyData.canLay0, PyData.depth, h1, Bool.true_and]
  exact decide_eq_true (by (first | lia | omega))
theorem eqvAll_map {f : Int → PyData} (hf : ∀ x y, PyData.eqv (f x) (f y) = decide (x = y)) : ∀ xs ys : List Int, PyData.eqvAll (xs.map f) (ys.map f) = decide (xs = ys)
  | [], [] => rfl
  | [], _ :: _ => rfl
  | _ :: _, [] => rfl
  | x :: xs, y :: ys => by
    simp only [List.map_cons, PyData.eqvAll, hf, eqvAll_map hf xs ys, List.cons.injEq]
    by_cases h : x = y <;> by_cases g : xs = ys <;> simp [h, g]
theorem eqv_ql (xs ys : List Int) : PyData.eqv (ql xs) (ql ys) = decide (xs = ys) := eqvAll_map eqv_q1 xs ys
theorem eqv_zl (xs ys : List Int) : PyData.eqv (zl xs) (zl ys) = decide (xs = ys) := eqvAll_map (fun x y => by simp only [PyData.eqv]; by_cases h : x = y <;> simp [h]) xs ys
theorem CallAt.mono {prog : Program} {w : World} {hB : Heap} {n m : Nat} {fa : Addr} {ds : List PyData} {d : PyData} (h : CallAt prog w hB n fa ds d) (hm : n ≤ m) : CallAt prog w hB m fa ds d :=
  fun A s fz vs Q E a => h A s fz vs Q E (a.le hm)
theorem MCallAt.mono {prog : Program} {w : World} {hB : Heap} {n m : Nat} {fa : Addr} {xs ds : List PyData} {d : PyData} {xs' : List PyData} (h : MCallAt prog w hB n fa xs ds d xs') (hm : n ≤ m) : MCallAt prog w hB m fa xs ds d xs' :=
  fun A s fz l us vs Q E a => h A s fz l us vs Q E (a.le hm)
end Mine
end
section
open PySem PySem.W PyProof.Rows PySem.Spec PySem.Calls
namespace Mine
theorem ofS_ne {a b : String} (h : (a == b) = false) : ¬ Str.ofString a = Str.ofString b := fun e => by
  rw [ofS_inj] at e
  subst e
  simp at h
theorem lk_hit {β : Type} {a : String} {v : β} {l : List (Str × β)} : List.lookup (Str.ofString a) ((Str.ofString a, v) :: l) = some v := by simp
theorem lk_miss {β : Type} {a b : String} {v : β} {l : List (Str × β)} (h : (a == b) = false) : List.lookup (Str.ofString a) ((Str.ofString b, v) :: l) = List.lookup (Str.ofString a) l := by
  rw [List.lookup_cons, show (Str.ofString a == Str.ofString b) = false by simpa using ofS_ne h]
noncomputable def isVarK : Option NameKind → Bool
  | some .local => true
  | some .cell => true
  | some .free => true
  | _ => false
theorem isVar_at {kd : KD} {x : Str} : isVar kd x = isVarK (kd x) := by
  unfold isVar isVarK; split <;> simp_all
theorem iv_l : isVarK (some .local) = true := rfl
theorem iv_c : isVarK (some .cell) = true := rfl
theorem iv_f : isVarK (some .free) = true := rfl
theorem iv_g : isVarK (some .globalImplicit) = false := rfl
theorem iv_n : isVarK none = false := rfl
noncomputable def canStK : Option NameKind → Bool
  | some .local => true
  | some .cell => true
  | _ => false
theorem canSt_at {kd : KD} {x : Str} : canStore kd x = canStK (kd x) := by
  unfold canStore canStK; split <;> simp_all
theorem cs_l : canStK (some .local) = true := rfl
theorem cs_c : canStK (some .cell) = true := rfl
section
variable {C : Ctx} {R : Rec} {kd : KD} {σ : Sg} {k : PyData → Prop} {kb : Bool → Prop}
theorem e_var {x : Str} {p : Pos} (h : isVar kd x = true) : stepE C R kd (.Name x p) σ k = shName x σ k := by
  rw [e_name, h]
  refine propext ⟨fun q => ?_, fun q => .inl ⟨rfl, q⟩⟩
  rcases q with q | q
  · exact q.2
  · unfold isVar at h
    rw [q.1] at h
    cases h
theorem e_glob {x : Str} {p : Pos} (h : kd x = some .globalImplicit) : stepE C R kd (.Name x p) σ k = ∃ d, C.glob x d ∧ k d := by
  rw [e_name, h]
  refine propext ⟨fun q => ?_, fun q => .inr ⟨rfl, q⟩⟩
  rcases q with q | q
  · have := q.1
    unfold isVar at this
    rw [h] at this
    cases this
  · exact q.2
theorem r_var {x : Str} {p : Pos} (h : isVar kd x = true) : rdE R kd (.Name x p) σ k = rdName x σ k := by
  rw [rdE_name, h]
  simp
theorem r_glob {x : Str} {p : Pos} (h : isVar kd x = false) : rdE R kd (.Name x p) σ k = R.e kd (.Name x p) σ k := by
  rw [rdE_name, h]
  simp
noncomputable def shK (o : Option Slot) (k : PyData → Prop) : Prop := match o with
  | some (.sh d) => k d
  | _ => False
noncomputable def rdK (o : Option Slot) (k : PyData → Prop) : Prop := match o with
  | some (.sh d) => k d
  | some (.own ds) => k (.list ds)
  | none => False
theorem shName_at {x : Str} : shName x σ k = shK (σ.get x) k := rfl
theorem rdName_at {x : Str} : rdName x σ k = rdK (σ.get x) k := rfl
theorem sh_s {d : PyData} : shK (some (.sh d)) k = k d := rfl
theorem sh_o {ds : List PyData} : shK (some (.own ds)) k = False := rfl
theorem sh_n : shK none k = False := rfl
theorem rd_s {d : PyData} : rdK (some (.sh d)) k = k d := rfl
theorem rd_o {ds : List PyData} : rdK (some (.own ds)) k = k (.list ds) := rfl
noncomputable def callK (C : Ctx) (R : Rec) (kd : KD) (f : Str) (args : List Expr) (σ : Sg) (k : PyData → Prop) (b : Option Bi) : Prop := match b with
  | some b => wpBi R kd b args σ k
  | none => C.dfn f ∧ wpArgs R kd args σ fun ds => ∃ d, C.call f ds d ∧ k d
theorem call_any {f : Str} {e : Expr} {es : List Expr} (h : kd f = some .globalImplicit) : wpCallN C R kd f (e :: es) σ k = callK C R kd f (e :: es) σ k (biOf f) := by
  unfold wpCallN callK
  rw [h]
  refine propext ⟨fun q => ?_, fun q => ⟨rfl, rfl, ?_⟩⟩
  · have := q.2.2
    cases e2 : biOf f with
    | none => rw [e2] at this; exact this
    | some b => rw [e2] at this; exact this
  · cases e2 : biOf f with
    | none => rw [e2] at q; exact q
    | some b => rw [e2] at q; exact q
theorem call_b {f : Str} {es : List Expr} {b : Bi} : callK C R kd f es σ k (some b) = wpBi R kd b es σ k := rfl
theorem call_n {f : Str} {es : List Expr} : callK C R kd f es σ k none = (C.dfn f ∧ wpArgs R kd es σ fun ds => ∃ d, C.call f ds d ∧ k d) := rfl
theorem args_1 {a : Expr} {k : List PyData → Prop} (h : notStar a = true) : wpArgs R kd [a] σ k = R.e kd a σ fun d => k [d] := by
  simp [wpArgs, wpArgs1, h]
theorem args_2 {a b : Expr} {k : List PyData → Prop} (h : notStar a = true) (h2 : notStar b = true) : wpArgs R kd [a, b] σ k = R.e kd a σ fun d => R.e kd b σ fun d2 => k [d, d2] := by
  simp [wpArgs, wpArgs1, h, h2]
theorem args_3 {a b c : Expr} {k : List PyData → Prop} (h : notStar a = true) (h2 : notStar b = true) (h3 : notStar c = true) : wpArgs R kd [a, b, c] σ k = R.e kd a σ fun d => R.e kd b σ fun d2 => R.e kd c σ fun d3 => k [d, d2, d3] := by
  simp [wpArgs, wpArgs1, h, h2, h3]
theorem bi_len1 {e : Expr} (h : notStar e = true) : wpBi R kd .len [e] σ k = rdE R kd e σ fun d => asSeq d fun ds => k (.int ds.length) := by
  show (notStar e = true ∧ _) = _
  rw [h]; simp
end
section
variable {σ : Sg} {a b : String} {s u v : Slot} {r : Sg} {xs : List Str} {y : Str}
theorem get_hit : Sg.get ((Str.ofString a, s) :: r) (Str.ofString a) = some s := if_pos rfl
theorem get_miss (h : (a == b) = false) : Sg.get ((Str.ofString b, s) :: r) (Str.ofString a) = Sg.get r (Str.ofString a) := if_neg (ofS_ne h)
theorem get_nil : Sg.get [] y = none := rfl
theorem gs_hit : (Sg.set σ (Str.ofString a) v).get (Str.ofString a) = some v := by rw [Sg.get_set, if_pos rfl]
theorem gs_miss (h : (a == b) = false) : (Sg.set σ (Str.ofString b) v).get (Str.ofString a) = σ.get (Str.ofString a) := by rw [Sg.get_set, if_neg (ofS_ne h)]
theorem gf_hit : (Sg.frz (Str.ofString a :: xs) σ).get (Str.ofString a) = (σ.get (Str.ofString a)).map Slot.froze := by rw [Sg.get_frz, if_pos (List.mem_cons_self ..)]
theorem gf_miss (h : (a == b) = false) : (Sg.frz (Str.ofString b :: xs) σ).get (Str.ofString a) = (Sg.frz xs σ).get (Str.ofString a) := by
  rw [Sg.get_frz, Sg.get_frz]
  have : (Str.ofString a ∈ Str.ofString b :: xs) = (Str.ofString a ∈ xs) := by
    rw [List.mem_cons]
    simp [ofS_ne h]
  simp only [this]
theorem set_hit : Sg.set ((Str.ofString a, u) :: r) (Str.ofString a) v = (Str.ofString a, v) :: r := if_pos rfl
theorem set_miss (h : (a == b) = false) : Sg.set ((Str.ofString b, u) :: r) (Str.ofString a) v = (Str.ofString b, u) :: Sg.set r (Str.ofString a) v := if_neg (ofS_ne h)
theorem set_nil : Sg.set [] y v = [(y, v)] := rfl
noncomputable def frz1 (xs : List Str) (y : Str) (v : Slot) : Slot := if y ∈ xs then v.froze else v
theorem frz_cons : Sg.frz xs ((y, v) :: r) = (y, frz1 xs y v) :: Sg.frz xs r := by
  unfold frz1
  show (if y ∈ xs then (y, v.froze) else (y, v)) :: _ = _
  split <;> rfl
theorem frz_end : Sg.frz xs [] = [] := rfl
theorem f1_nil : frz1 [] y v = v := if_neg List.not_mem_nil
theorem f1_sh {d : PyData} : frz1 xs y (.sh d) = .sh d := by unfold frz1; split <;> rfl
theorem f1_hit : frz1 (Str.ofString a :: xs) (Str.ofString a) v = v.froze := if_pos (List.mem_cons_self ..)
theorem f1_miss (h : (a == b) = false) : frz1 (Str.ofString b :: xs) (Str.ofString a) v = frz1 xs (Str.ofString a) v := by
  unfold frz1
  have : (Str.ofString a ∈ Str.ofString b :: xs) = (Str.ofString a ∈ xs) := by
    rw [List.mem_cons]
    simp [ofS_ne h]
  simp only [this]
theorem ex_own {ds : List PyData} {P : List PyData → Prop} : (∃ x, some (Slot.own ds) = some (Slot.own x) ∧ P x) = P ds := by simp
theorem ex_own1 {ds : List PyData} : (∃ x, some (Slot.own ds) = some (Slot.own x)) = True := by simp
theorem ex_sg {τ : Sg} {P : Sg → Prop} : (∃ x, some τ = some x ∧ P x) = P τ := by simp
end
section
variable {n : Nat} {p q : Pos} {x : Str}
theorem es_name : escE (n + 1) (.Name x p) = [x] := rfl
theorem es_len {args : List Expr} : escE (n + 1) (.Call (.Name (Str.ofString "len") p) args [] q) = [] := by
  show (if Str.ofString "len" = Str.ofString "len" then [] else args.flatMap (escE n)) = []
  exact if_pos rfl
theorem es_call {f : String} {args : List Expr} (h : (f == "len") = false) : escE (n + 1) (.Call (.Name (Str.ofString f) p) args [] q) = args.flatMap (escE n) := if_neg (ofS_ne h)
theorem es_tup {es : List Expr} {m : Nat} : escE (n + 1) (.Tuple es m p) = es.flatMap (escE n) := rfl
theorem es_list {es : List Expr} : escE (n + 1) (.List es p) = es.flatMap (escE n) := rfl
theorem es_bin {l r : Expr} {op : Operator} : escE (n + 1) (.BinOp l op r p) = escE n l ++ escE n r := rfl
theorem es_subn {sl : Expr} : escE (n + 1) (.Subscript (.Name x q) sl p) = [] := rfl
theorem es_subs {v s sl : Expr} : escE (n + 1) (.Subscript (.Subscript v s q) sl p) = escE n (.Subscript v s q) := rfl
theorem es_subc {f sl : Expr} {as : List Expr} {ks : List Keyword} : escE (n + 1) (.Subscript (.Call f as ks q) sl p) = escE n (.Call f as ks q) := rfl
theorem es_const {c : Const} {m : Nat} : escE (n + 1) (.Constant c m p) = [] := rfl
theorem es_cmp {l : Expr} {ops : List CmpOp} {rs : List Expr} : escE (n + 1) (.Compare l ops rs p) = [] := rfl
theorem es_un {op : UnaryOp} {e : Expr} : escE (n + 1) (.UnaryOp op e p) = [] := rfl
theorem es_ife {t b e : Expr} : escE (n + 1) (.IfExp t b e p) = [] := rfl
theorem es_bool {op : BoolOp} {es : List Expr} : escE (n + 1) (.BoolOp op es p) = [] := rfl
theorem es_comp {e : Expr} {gs : List Comprehension} {sc : Scope} : escE (n + 1) (.ListComp e gs sc p) = [] := rfl
theorem ns_name : notStar (.Name x p) = true := rfl
theorem ns_call {f : Expr} {as : List Expr} {ks : List Keyword} : notStar (.Call f as ks p) = true := rfl
theorem ns_tup {es : List Expr} {m : Nat} : notStar (.Tuple es m p) = true := rfl
theorem ns_list {es : List Expr} : notStar (.List es p) = true := rfl
theorem ns_bin {l r : Expr} {op : Operator} : notStar (.BinOp l op r p) = true := rfl
theorem ns_sub {v sl : Expr} : notStar (.Subscript v sl p) = true := rfl
theorem ns_const {c : Const} {m : Nat} : notStar (.Constant c m p) = true := rfl
theorem ns_cmp {l : Expr} {ops : List CmpOp} {rs : List Expr} : notStar (.Compare l ops rs p) = true := rfl
theorem ns_un {op : UnaryOp} {e : Expr} : notStar (.UnaryOp op e p) = true := rfl
theorem ns_ife {t b e : Expr} : notStar (.IfExp t b e p) = true := rfl
theorem ns_bool {op : BoolOp} {es : List Expr} : notStar (.BoolOp op es p) = true := rfl
theorem ns_comp {e : Expr} {gs : List Comprehension} {sc : Scope} : notStar (.ListComp e gs sc p) = true := rfl
theorem nc_name : notComp (.Name x p) = true := rfl
theorem nc_call {f : Expr} {as : List Expr} {ks : List Keyword} : notComp (.Call f as ks p) = true := rfl
theorem nc_tup {es : List Expr} {m : Nat} : notComp (.Tuple es m p) = true := rfl
theorem nc_list {es : List Expr} : notComp (.List es p) = true := rfl
theorem nc_bin {l r : Expr} {op : Operator} : notComp (.BinOp l op r p) = true := rfl
theorem nc_sub {v sl : Expr} : notComp (.Subscript v sl p) = true := rfl
theorem nc_const {c : Const} {m : Nat} : notComp (.Constant c m p) = true := rfl
theorem nc_cmp {l : Expr} {ops : List CmpOp} {rs : List Expr} : notComp (.Compare l ops rs p) = true := rfl
theorem nc_un {op : UnaryOp} {e : Expr} : notComp (.UnaryOp op e p) = true := rfl
theorem nc_ife {t b e : Expr} : notComp (.IfExp t b e p) = true := rfl
theorem nc_bool {op : BoolOp} {es : List Expr} : notComp (.BoolOp op es p) = true := rfl
end
theorem bi_len : biOf (Str.ofString "len") = some .len := by kernel_rfl
theorem bi_abs : biOf (Str.ofString "abs") = some .abs := by kernel_rfl
theorem bi_max : biOf (Str.ofString "max") = some .max := by kernel_rfl
theorem bi_min : biOf (Str.ofString "min") = some .min := by kernel_rfl
theorem bi_list : biOf (Str.ofString "list") = some .list := by kernel_rfl
theorem bi_sum : biOf (Str.ofString "sum") = some .sum := by kernel_rfl
theorem bi_isinstance : biOf (Str.ofString "isinstance") = some .isinst := by kernel_rfl
theorem bi_int : biOf (Str.ofString "int") = some .int := by kernel_rfl
theorem bn_gcd : biOf (Str.ofString "gcd") = none := by kernel_rfl
theorem bn_gcd_all : biOf (Str.ofString "gcd_all") = none := by kernel_rfl
theorem bn_rat : biOf (Str.ofString "rat") = none := by kernel_rfl
theorem bn_radd : biOf (Str.ofString "radd") = none := by kernel_rfl
theorem bn_rsub : biOf (Str.ofString "rsub") = none := by kernel_rfl
theorem bn_rmul : biOf (Str.ofString "rmul") = none := by kernel_rfl
theorem bn_rdiv : biOf (Str.ofString "rdiv") = none := by kernel_rfl
theorem bn_rneg : biOf (Str.ofString "rneg") = none := by kernel_rfl
theorem bn_is_vast : biOf (Str.ofString "is_vast") = none := by kernel_rfl
theorem bn_let : biOf (Str.ofString "let") = none := by kernel_rfl
theorem bn_mixed : biOf (Str.ofString "mixed") = none := by kernel_rfl
theorem bn_smul : biOf (Str.ofString "smul") = none := by kernel_rfl
theorem bn_sinverse : biOf (Str.ofString "sinverse") = none := by kernel_rfl
theorem bn_qtrim : biOf (Str.ofString "qtrim") = none := by kernel_rfl
theorem bn_qadd : biOf (Str.ofString "qadd") = none := by kernel_rfl
theorem bn_qneg : biOf (Str.ofString "qneg") = none := by kernel_rfl
theorem bn_qsub : biOf (Str.ofString "qsub") = none := by kernel_rfl
theorem bn_qscale : biOf (Str.ofString "qscale") = none := by kernel_rfl
theorem bn_qmul : biOf (Str.ofString "qmul") = none := by kernel_rfl
theorem bn_ztrim : biOf (Str.ofString "ztrim") = none := by kernel_rfl
theorem bn_zdegree : biOf (Str.ofString "zdegree") = none := by kernel_rfl
theorem bn_zlead : biOf (Str.ofString "zlead") = none := by kernel_rfl
theorem bn_zadd : biOf (Str.ofString "zadd") = none := by kernel_rfl
theorem bn_zneg : biOf (Str.ofString "zneg") = none := by kernel_rfl
theorem bn_zsub : biOf (Str.ofString "zsub") = none := by kernel_rfl
theorem bn_zscale : biOf (Str.ofString "zscale") = none := by kernel_rfl
theorem bn_zraise : biOf (Str.ofString "zraise") = none := by kernel_rfl
theorem bn_zcontent : biOf (Str.ofString "zcontent") = none := by kernel_rfl
theorem bn_zdivided : biOf (Str.ofString "zdivided") = none := by kernel_rfl
theorem bn_zprimitive : biOf (Str.ofString "zprimitive") = none := by kernel_rfl
theorem bn_zderive : biOf (Str.ofString "zderive") = none := by kernel_rfl
theorem bn_check_bottom : biOf (Str.ofString "check_bottom") = none := by kernel_rfl
theorem bn_pseudo : biOf (Str.ofString "pseudo") = none := by kernel_rfl
theorem bn_zpseudo_rest : biOf (Str.ofString "zpseudo_rest") = none := by kernel_rfl
theorem bn_next_height : biOf (Str.ofString "next_height") = none := by kernel_rfl
theorem bn_subresultants : biOf (Str.ofString "subresultants") = none := by kernel_rfl
theorem bn_zgcd : biOf (Str.ofString "zgcd") = none := by kernel_rfl
theorem bn_sign_of : biOf (Str.ofString "sign_of") = none := by kernel_rfl
theorem bn_end_sign : biOf (Str.ofString "end_sign") = none := by kernel_rfl
theorem bn_sign_at : biOf (Str.ofString "sign_at") = none := by kernel_rfl
theorem bn_simple_part : biOf (Str.ofString "simple_part") = none := by kernel_rfl
theorem bn_lessened : biOf (Str.ofString "lessened") = none := by kernel_rfl
theorem bn_next_of_row : biOf (Str.ofString "next_of_row") = none := by kernel_rfl
theorem bn_sturm_row : biOf (Str.ofString "sturm_row") = none := by kernel_rfl
theorem bn_changes_at : biOf (Str.ofString "changes_at") = none := by kernel_rfl
theorem bn_count_by_row : biOf (Str.ofString "count_by_row") = none := by kernel_rfl
theorem bn_count_roots : biOf (Str.ofString "count_roots") = none := by kernel_rfl
theorem bn_law_draw : biOf (Str.ofString "_law_draw") = none := by kernel_rfl
theorem bn_law_rows : biOf (Str.ofString "_law_rows") = none := by kernel_rfl
theorem bn_law_ways : biOf (Str.ofString "_law_ways") = none := by kernel_rfl
theorem bn_law : biOf (Str.ofString "law") = none := by kernel_rfl
end Mine
end
section
open PySem PySem.W PyProof.Rows PySem.Spec PySem.Calls
namespace Mine
noncomputable def HasGcd (C : Ctx) : Prop := C.dfn (Str.ofString "gcd") ∧ ∀ a b : Int, C.call (Str.ofString "gcd") [.int a, .int b] (.int (Int.gcd a b))
theorem gcd_gives (C : Ctx) (a b : Int) : Gives C 3 [.int a, .int b] (.int (Int.gcd a b)) := by
  refine ⟨_, rfl, rfl, ?_⟩
  simp only [List.map_cons, List.map_nil, List.zip_cons_cons, List.zip_nil_right, reduceCtorEq]
  refine st_par ?_
  simp only [wpVals, List.all_cons, ns_call, List.all_nil, Bool.and_true, wpVals1, wpVal, List.flatMap_cons, String.reduceBEq, es_call, es_name, List.flatMap_nil, List.cons_append, List.nil_append, frz_cons, f1_sh, frz_end, setAll, canSt_at, kdOf_at, lk_hit, cs_l, ↓reduceIte, lk_miss, set_hit, set_miss, Option.some.injEq, Nat.reduceAdd, exists_eq_left', wpN_e, e_call, call_any, bi_abs, call_b, wpBi, wpArgs, ns_name, wpArgs1, isVar_at, iv_l, e_var, shName_at, get_miss, get_hit, sh_s, asInt_i, true_and]
  refine st_while (fun n σ => ∃ x : Nat, σ = [(Str.ofString "a", .sh (.int x)), (Str.ofString "b", .sh (.int n))] ∧ Nat.gcd x n = Int.gcd a b) b.natAbs ⟨a.natAbs, rfl, rfl⟩ fun n σ hI K hK => ?_
  obtain ⟨x, rfl, hg⟩ := hI
  simp only [Nat.reduceAdd, wpN_t, t_cmp, cmpOk, cmp_ne, Bool.not_eq_eq_eq_not, Bool.not_true, Bool.not_false, rdE_const, wpN_e, e_const, c_int, isVar_at, kdOf_at, String.reduceBEq, lk_miss, lk_hit, iv_l, r_var, rdName_at, get_miss, get_hit, rd_s, eqD_i, decide_eq_false_iff_not, decide_eq_true_eq, true_and]
  refine ⟨fun hn => ?_, fun hn => ?_⟩
  · refine st_par ?_
    simp only [wpVals, List.all_cons, ns_name, ns_bin, List.all_nil, Bool.and_true, wpVals1, wpVal, List.flatMap_cons, es_name, es_bin, List.cons_append, List.nil_append, List.flatMap_nil, frz_cons, f1_sh, frz_end, setAll, canSt_at, kdOf_at, lk_hit, cs_l, ↓reduceIte, String.reduceBEq, lk_miss, set_hit, set_miss, Option.some.injEq, Nat.reduceAdd, exists_eq_left', wpN_e, e_bin, wpBinE, bin_mod, isVar_at, iv_l, e_var, shName_at, get_miss, get_hit, sh_s, asInt_i, true_and]
    refine ⟨hn, st_nil ?_⟩
    have hn' : 0 < n := by (first | lia | omega)
    refine hK (x % n) _ (Nat.mod_lt _ hn') ⟨n, ?_, ?_⟩
    · simp [Int.fmod_eq_emod_of_nonneg]
    · rw [← hg, Nat.gcd_comm x n, Nat.gcd_rec n x, Nat.gcd_comm]
  · refine st_ret ?_
    simp only [es_name, frz_cons, f1_sh, frz_end, wpN_e, isVar_at, kdOf_at, lk_hit, iv_l, e_var, shName_at, get_hit, sh_s]
    have : n = 0 := by simpa using hn
    subst this
    rw [← hg]; simp
noncomputable def gcdAll (xs : List Int) : Int := xs.foldl (fun g x => (Int.gcd g x : Int)) 0
noncomputable def HasGcdAll (C : Ctx) : Prop := C.dfn (Str.ofString "gcd_all") ∧ ∀ xs : List Int, C.call (Str.ofString "gcd_all") [zl xs] (.int (gcdAll xs))
theorem gcdAll_gives (C : Ctx) (hg : HasGcd C) (xs : List Int) : Gives C 5 [zl xs] (.int (gcdAll xs)) := by
  refine ⟨_, rfl, rfl, ?_⟩
  simp only [List.map_cons, List.map_nil, List.zip_cons_cons, List.zip_nil_right, reduceCtorEq]
  refine st_assign ?_
  simp only [wpVal, es_const, frz_cons, f1_sh, frz_end, Nat.reduceAdd, String.reduceBEq, set_miss, set_nil, wpN_e, e_const, c_int]
  refine st_for ?_
  simp only [wpIter, es_name, frz_cons, f1_sh, frz_end, Nat.reduceAdd, wpN_e, isVar_at, kdOf_at, lk_hit, iv_l, e_var, shName_at, get_hit, sh_s, asSeq_l]
  refine wpF_ind (fun r σ => ∃ ys g, r = ys.map PyData.int ∧ σ.get (Str.ofString "found") = some (.sh (.int g)) ∧ ys.foldl (fun g x => (Int.gcd g x : Int)) g = gcdAll xs) ⟨xs, 0, rfl, rfl, rfl⟩ (fun σ h => ?_) fun d r σ h K hK => ?_
  · obtain ⟨ys, g, h1, h2, h3⟩ := h
    have : ys = [] := by simpa using h1.symm
    subst this
    refine st_ret ?_
    simp only [es_name, wpN_e, isVar_at, kdOf_at, String.reduceBEq, lk_miss, lk_hit, iv_l, e_var, shName_at, gf_hit, h2, Option.map_some, froze_sh, sh_s]
    exact congrArg PyData.int h3
  · obtain ⟨ys, g, h1, h2, h3⟩ := h
    obtain ⟨y, ys, rfl, rfl, rfl⟩ : ∃ y ys', ys = y :: ys' ∧ d = .int y ∧ r = ys'.map PyData.int := by
      cases ys with
      | nil => simp at h1
      | cons y ys => simp at h1; exact ⟨y, ys, rfl, h1.1, h1.2⟩
    simp only [bindT]
    refine st_assign ?_
    simp only [wpVal, String.reduceBEq, es_call, List.flatMap_cons, es_name, List.flatMap_nil, List.cons_append, List.nil_append, Nat.reduceAdd, wpN_e, e_call, kdOf_at, lk_miss, lk_hit, call_any, bn_gcd, call_n, wpArgs, List.all_cons, ns_name, List.all_nil, Bool.and_true, wpArgs1, isVar_at, iv_l, e_var, shName_at, gf_miss, gf_hit, gs_hit, Option.map_some, froze_sh, sh_s, gs_miss, h2, true_and]
    refine ⟨hg.1, _, hg.2 _ _, st_nil (hK _ ⟨ys, _, rfl, ?_, h3⟩)⟩
    simp only [gs_hit]
/-- the ratios with the bottom 1 -/
noncomputable def HasRat (C : Ctx) : Prop := C.dfn (Str.ofString "rat") ∧ ∀ a : Int, C.call (Str.ofString "rat") [.int a, .int 1] (q1 a)
theorem rat_gives (C : Ctx) (hg : HasGcd C) (a : Int) : Gives C 10 [.int a, .int 1] (q1 a) := by
  refine ⟨_, rfl, rfl, ?_⟩
  simp only [List.map_cons, List.map_nil, List.zip_cons_cons, List.zip_nil_right, reduceCtorEq]
  refine st_if ?_
  simp only [es_cmp, frz_cons, f1_sh, frz_end, Nat.reduceAdd, wpN_t, t_cmp, cmpOk, cmp_eq, rdE_const, wpN_e, e_const, c_int, isVar_at, kdOf_at, String.reduceBEq, lk_miss, lk_hit, iv_l, r_var, rdName_at, get_miss, get_hit, rd_s, eqD_i, decide_eq_true_eq, decide_eq_false_iff_not, true_and]
  refine ⟨fun h => absurd h (by decide), fun _ => st_nil ?_⟩
  simp only
  refine st_assign ?_
  simp only [wpVal, es_ife, frz_cons, f1_sh, frz_end, Nat.reduceAdd, String.reduceBEq, set_miss, set_nil, wpN_e, e_ife, e_call, kdOf_at, lk_miss, lk_hit, call_any, bn_gcd, call_n, wpArgs, List.all_cons, ns_name, List.all_nil, Bool.and_true, wpArgs1, isVar_at, iv_l, e_var, shName_at, get_miss, get_hit, sh_s, true_and, e_bin, wpBinE, bin_sub, e_const, c_int, wpN_t, t_cmp, cmpOk, cmp_gt, decide_eq_true_eq, decide_eq_false_iff_not, rdE_const, asInt_i, r_var, rdName_at, rd_s]
  refine ⟨fun _ => ⟨hg.1, _, hg.2 _ _, ?_⟩, fun h => absurd h (by decide)⟩
  refine st_ret ?_
  simp only [es_tup, List.flatMap_cons, es_bin, es_name, List.cons_append, List.nil_append, List.flatMap_nil, frz_cons, f1_sh, frz_end, wpN_e, e_tup, List.length_cons, List.length_nil, Nat.reduceAdd, Nat.reduceLeDiff, wpArgs, List.all_cons, ns_bin, List.all_nil, Bool.and_true, wpArgs1, e_bin, wpBinE, bin_div, isVar_at, kdOf_at, String.reduceBEq, lk_miss, lk_hit, iv_l, e_var, shName_at, get_miss, get_hit, sh_s, asInt_i, true_and]
  simp [Fit.one]
noncomputable def HasBin (C : Ctx) (f : String) (op : Int → Int → Int) : Prop := C.dfn (Str.ofString f) ∧ ∀ a b : Int, Fit a → Fit b → C.call (Str.ofString f) [q1 a, q1 b] (q1 (op a b))
theorem radd_gives (C : Ctx) (hr : HasRat C) (a b : Int) (ha : Fit a) (hb : Fit b) : Gives C 11 [q1 a, q1 b] (q1 (a + b)) := by
  refine ⟨_, rfl, rfl, ?_⟩
  simp only [List.map_cons, List.map_nil, List.zip_cons_cons, List.zip_nil_right, reduceCtorEq]
  refine st_ret ?_
  simp only [String.reduceBEq, es_call, List.flatMap_cons, es_bin, es_subn, List.nil_append, List.flatMap_nil, frz_cons, f1_sh, frz_end, wpN_e, e_call, kdOf_at, lk_miss, lk_hit, call_any, bn_rat, call_n, wpArgs, List.all_cons, ns_bin, List.all_nil, Bool.and_true, wpArgs1, e_bin, wpBinE, bin_mul, e_sub, wpSub, itemD, e_const, c_int, asInt_i, isVar_at, iv_l, r_var, rdName_at, get_miss, get_hit, rd_s, asSeq_t, pyAt_1, Option.some.injEq, exists_eq_left', binMul_i, bin_add, pyAt_0, binAdd_i, true_and]
  refine ⟨hr.1, ha, Fit.one, hb, Fit.one, Fit.one, Fit.one, _, ?_, rfl⟩
  have := hr.2 (a + b)
  simpa using this
theorem rsub_gives (C : Ctx) (hr : HasRat C) (a b : Int) (ha : Fit a) (hb : Fit b) : Gives C 12 [q1 a, q1 b] (q1 (a - b)) := by
  refine ⟨_, rfl, rfl, ?_⟩
  simp only [List.map_cons, List.map_nil, List.zip_cons_cons, List.zip_nil_right, reduceCtorEq]
  refine st_ret ?_
  simp only [String.reduceBEq, es_call, List.flatMap_cons, es_bin, es_subn, List.nil_append, List.flatMap_nil, frz_cons, f1_sh, frz_end, wpN_e, e_call, kdOf_at, lk_miss, lk_hit, call_any, bn_rat, call_n, wpArgs, List.all_cons, ns_bin, List.all_nil, Bool.and_true, wpArgs1, e_bin, wpBinE, bin_mul, e_sub, wpSub, itemD, e_const, c_int, asInt_i, isVar_at, iv_l, r_var, rdName_at, get_miss, get_hit, rd_s, asSeq_t, pyAt_1, Option.some.injEq, exists_eq_left', binMul_i, bin_sub, pyAt_0, binSub_i, true_and]
  refine ⟨hr.1, ha, Fit.one, hb, Fit.one, Fit.one, Fit.one, _, ?_, rfl⟩
  have := hr.2 (a - b)
  simpa using this
theorem rmul_gives (C : Ctx) (hr : HasRat C) (a b : Int) (ha : Fit a) (hb : Fit b) : Gives C 13 [q1 a, q1 b] (q1 (a * b)) := by
  refine ⟨_, rfl, rfl, ?_⟩
  simp only [List.map_cons, List.map_nil, List.zip_cons_cons, List.zip_nil_right, reduceCtorEq]
  refine st_ret ?_
  simp only [String.reduceBEq, es_call, List.flatMap_cons, es_bin, es_subn, List.nil_append, List.flatMap_nil, frz_cons, f1_sh, frz_end, wpN_e, e_call, kdOf_at, lk_miss, lk_hit, call_any, bn_rat, call_n, wpArgs, List.all_cons, ns_bin, List.all_nil, Bool.and_true, wpArgs1, e_bin, wpBinE, bin_mul, e_sub, wpSub, itemD, e_const, c_int, asInt_i, isVar_at, iv_l, r_var, rdName_at, get_miss, get_hit, rd_s, asSeq_t, pyAt_1, Option.some.injEq, exists_eq_left', binMul_i, pyAt_0, true_and]
  refine ⟨hr.1, ha, hb, Fit.one, Fit.one, _, ?_, rfl⟩
  have := hr.2 (a * b)
  simpa using this
/-- «rdiv» by the ratio 1 -/
noncomputable def HasRdiv (C : Ctx) : Prop := C.dfn (Str.ofString "rdiv") ∧ ∀ a : Int, Fit a → C.call (Str.ofString "rdiv") [q1 a, q1 1] (q1 a)
theorem rdiv_gives (C : Ctx) (hr : HasRat C) (a : Int) (ha : Fit a) : Gives C 14 [q1 a, q1 1] (q1 a) := by
  refine ⟨_, rfl, rfl, ?_⟩
  simp only [List.map_cons, List.map_nil, List.zip_cons_cons, List.zip_nil_right, reduceCtorEq]
  refine st_ret ?_
  simp only [String.reduceBEq, es_call, List.flatMap_cons, es_bin, es_subn, List.nil_append, List.flatMap_nil, frz_cons, f1_sh, frz_end, wpN_e, e_call, kdOf_at, lk_miss, lk_hit, call_any, bn_rat, call_n, wpArgs, List.all_cons, ns_bin, List.all_nil, Bool.and_true, wpArgs1, e_bin, wpBinE, bin_mul, e_sub, wpSub, itemD, e_const, c_int, asInt_i, isVar_at, iv_l, r_var, rdName_at, get_miss, get_hit, rd_s, asSeq_t, pyAt_0, Option.some.injEq, exists_eq_left', pyAt_1, binMul_i, true_and]
  refine ⟨hr.1, ha, Fit.one, Fit.one, Fit.one, _, ?_, rfl⟩
  have := hr.2 a
  simpa using this
noncomputable def HasRneg (C : Ctx) : Prop := C.dfn (Str.ofString "rneg") ∧ ∀ a : Int, C.call (Str.ofString "rneg") [q1 a] (q1 (-a))
theorem rneg_gives (C : Ctx) (a : Int) : Gives C 15 [q1 a] (q1 (-a)) := by
  refine ⟨_, rfl, rfl, ?_⟩
  simp only [List.map_cons, List.map_nil, List.zip_cons_cons, List.zip_nil_right, reduceCtorEq]
  refine st_ret ?_
  simp only [es_tup, List.flatMap_cons, es_bin, es_const, es_subn, List.nil_append, List.flatMap_nil, frz_cons, f1_sh, frz_end, wpN_e, e_tup, List.length_cons, List.length_nil, Nat.reduceAdd, Nat.reduceLeDiff, wpArgs, List.all_cons, ns_bin, ns_sub, List.all_nil, Bool.and_true, wpArgs1, e_sub, wpSub, itemD, e_const, c_int, asInt_i, isVar_at, kdOf_at, lk_hit, iv_l, r_var, rdName_at, get_hit, rd_s, asSeq_t, pyAt_1, Option.some.injEq, exists_eq_left', e_bin, wpBinE, bin_sub, pyAt_0, binSub_i, true_and]
  simp
noncomputable def HasVast (C : Ctx) : Prop := C.dfn (Str.ofString "is_vast") ∧ ∀ a : Int, Sz 64 a → C.call (Str.ofString "is_vast") [q1 a] (.bool false)
theorem vast_gives (C : Ctx) (a : Int) (ha : Sz 64 a) : Gives C 16 [q1 a] (.bool false) := by
  refine ⟨_, rfl, rfl, ?_⟩
  simp only [List.map_cons, List.map_nil, List.zip_cons_cons, List.zip_nil_right, reduceCtorEq]
  refine st_assign ?_
  simp only [wpVal, String.reduceBEq, es_call, List.flatMap_cons, es_subn, List.flatMap_nil, List.nil_append, frz_cons, f1_sh, frz_end, Nat.reduceAdd, set_miss, set_nil, wpN_e, e_call, kdOf_at, lk_miss, lk_hit, call_any, bi_max, call_b, wpBi, wpArgs, List.all_cons, ns_call, ns_sub, List.all_nil, Bool.and_true, wpArgs1, e_sub, wpSub, itemD, e_const, c_int, asInt_i, isVar_at, iv_l, r_var, rdName_at, get_hit, rd_s, asSeq_t, pyAt_1, Option.some.injEq, exists_eq_left', bi_abs, pyAt_0, true_and]
  refine st_ret ?_
  simp only [es_bool, frz_cons, f1_sh, frz_end, wpN_e, e_and, e_cmp, cmpOk, cmp_gt, isVar_at, kdOf_at, String.reduceBEq, lk_miss, lk_hit, iv_g, r_glob, e_glob, rdE_call, e_call, call_any, true_and, implies_true, and_true, asBool_b, cmp_ge, decide_eq_true_eq, rdE_bin, e_bin, wpBinE, bin_pow, asInt_i, e_const, c_int, iv_l, r_var, rdName_at, get_miss, get_hit, rd_s]
  refine ⟨by decide, by decide, Sz.fit (k := 2) (by unfold Sz; decide), fun h => ?_⟩
  exfalso
  unfold Sz at ha
  have e : (2 : Int) ^ Int.toNat 64 = 18446744073709551616 := by decide
  rw [e] at h
  have ha : a.natAbs < 18446744073709551616 := by simpa using ha
  split at h <;> (first | lia | omega)
noncomputable def HasLet (C : Ctx) : Prop := C.dfn (Str.ofString "let") ∧ ∀ a : Int, Sz 64 a → C.call (Str.ofString "let") [q1 a] (q1 a)
theorem let_gives (C : Ctx) (hv : HasVast C) (a : Int) (ha : Sz 64 a) : Gives C 18 [q1 a] (q1 a) := by
  refine ⟨_, rfl, rfl, ?_⟩
  simp only [List.map_cons, List.map_nil, List.zip_cons_cons, List.zip_nil_right, reduceCtorEq]
  refine st_if ?_
  simp only [String.reduceBEq, es_call, List.flatMap_cons, es_name, List.flatMap_nil, List.cons_append, List.nil_append, frz_cons, f1_sh, frz_end, Nat.reduceAdd, wpN_t, t_call, kdOf_at, lk_miss, lk_hit, call_any, bn_is_vast, call_n, wpArgs, List.all_cons, ns_name, List.all_nil, Bool.and_true, wpArgs1, wpN_e, isVar_at, iv_l, e_var, shName_at, get_hit, sh_s, true_and]
  refine ⟨hv.1, _, hv.2 a ha, ?_⟩
  simp only [asBool_b, Bool.false_eq_true, false_implies, forall_const, true_and]
  refine st_nil ?_
  simp only
  refine st_ret ?_
  simp only [es_name, frz_cons, f1_sh, frz_end, wpN_e, isVar_at, kdOf_at, lk_hit, iv_l, e_var, shName_at, get_hit, sh_s]
end Mine
end
section
open PySem PySem.W PyProof.Rows PySem.Spec PySem.Calls
namespace Mine
noncomputable def SzL (k : Nat) (xs : List Int) : Prop := ∀ i, Sz k (xs.getD i 0)
noncomputable def HasR0 (C : Ctx) : Prop := C.glob (Str.ofString "R0") (q1 0)
noncomputable def HasR1 (C : Ctx) : Prop := C.glob (Str.ofString "R1") (q1 1)
noncomputable def convP (xs ys : List Int) (n : Nat) : Nat → Int
  | 0 => 0
  | i + 1 => convP xs ys n i + xs.getD i 0 * ys.getD (n - i) 0
noncomputable def conv (xs ys : List Int) (n : Nat) : Int := convP xs ys n (n + 1)
theorem convP_sz {xs ys : List Int} {n a b : Nat} (hx : SzL a xs) (hy : SzL b ys) : ∀ i, Sz (a + b + i) (convP xs ys n i)
  | 0 => Sz.zero
  | i + 1 => Sz.add (convP_sz hx hy i) ((Sz.mul (hx i) (hy (n - i))).le (Nat.le_add_right (a + b) i))
noncomputable def HasMixed (C : Ctx) : Prop := C.dfn (Str.ofString "mixed") ∧ ∀ (xs ys : List Int) (n : Nat), n < xs.length → n < ys.length → n < 1000 → SzL 1000 xs → SzL 1000 ys → C.call (Str.ofString "mixed") [ql xs, ql ys, .int n] (q1 (conv xs ys n))
theorem mixed_gives (C : Ctx) (h0 : HasR0 C) (ha : HasBin C "radd" (· + ·)) (hm : HasBin C "rmul" (· * ·)) (xs ys : List Int) (n : Nat) (hx : n < xs.length) (hy : n < ys.length) (hn : n < 1000) (sx : SzL 1000 xs) (sy : SzL 1000 ys) :
    Gives C 19 [ql xs, ql ys, .int n] (q1 (conv xs ys n)) := by
  refine ⟨_, rfl, rfl, ?_⟩
  simp only [List.map_cons, List.map_nil, List.zip_cons_cons, List.zip_nil_right, reduceCtorEq]
  refine st_assign ?_
  simp only [wpVal, es_name, frz_cons, f1_sh, frz_end, Nat.reduceAdd, String.reduceBEq, set_miss, set_nil, wpN_e, kdOf_at, lk_miss, lk_hit, e_glob]
  refine ⟨_, h0, ?_⟩
  refine st_for ?_
  simp only [wpIter, isFn, beq_self_eq_true, kdOf_at, String.reduceBEq, lk_miss, lk_hit, Bool.and_true, wpArgs, List.all_cons, ns_bin, List.all_nil, wpArgs1, es_call, List.flatMap_cons, es_bin, es_name, es_const, List.cons_append, List.nil_append, List.flatMap_nil, frz_cons, f1_sh, frz_end, Nat.reduceAdd, wpN_e, e_bin, wpBinE, bin_add, e_const, c_int, isVar_at, iv_l, e_var, shName_at, get_miss, get_hit, sh_s, binAdd_i, asInt_i, true_and, ofS_beq, String.reduceEq, decide_false, Bool.false_eq_true, false_and, reduceCtorEq, e_call, call_any, or_self, or_false]
  refine ⟨by (first | lia | omega), by (first | lia | omega), ?_⟩
  refine wpF_range _ _ (fun i σ => σ.get (Str.ofString "a") = some (.sh (ql xs)) ∧ σ.get (Str.ofString "b") = some (.sh (ql ys)) ∧ σ.get (Str.ofString "at") = some (.sh (.int n)) ∧ σ.get (Str.ofString "found") = some (.sh (q1 (convP xs ys n i)))) ⟨rfl, rfl, rfl, rfl⟩ (fun σ h => ?_) fun i σ hi h K hK => ?_
  · obtain ⟨h1, h2, h3, h4⟩ := h
    refine st_ret ?_
    simp only [es_name, wpN_e, isVar_at, kdOf_at, String.reduceBEq, lk_miss, lk_hit, iv_l, e_var, shName_at, gf_hit, h4, Option.map_some, froze_sh, sh_s]
    unfold conv
    rfl
  · obtain ⟨h1, h2, h3, h4⟩ := h
    have e1 : pyAt (xs.map q1) (i : Int) = some (q1 (xs.getD i 0)) := pyAt_map (by (first | lia | omega)) (by (first | lia | omega))
    have e2 : pyAt (ys.map q1) ((n : Int) - (i : Int)) = some (q1 (ys.getD (n - i) 0)) := by
      rw [pyAt_map (by (first | lia | omega)) (by (first | lia | omega))]
      congr 3; (first | lia | omega)
    have zero : xs.getD i 0 = 0 ∨ ys.getD (n - i) 0 = 0 → convP xs ys n i = convP xs ys n (i + 1) := fun h => by
      rw [convP]
      rcases h with h | h <;> rw [h] <;> simp
    simp only [bindT]
    refine st_if ?_
    simp only [es_bool, frz_nil, Nat.reduceAdd, wpN_t, t_and, t_cmp, cmpOk, cmp_ne, Bool.not_eq_eq_eq_not, Bool.not_true, Bool.not_false, isVar_at, kdOf_at, String.reduceBEq, lk_miss, lk_hit, iv_g, r_glob, wpN_e, e_glob, rdE_sub, e_sub, wpSub, itemD, e_bin, wpBinE, bin_sub, iv_l, e_var, shName_at, gs_hit, sh_s, gs_miss, h3, binSub_i, asInt_i, r_var, rdName_at, h2, rd_s, asSeq_l, e2, Option.some.injEq, exists_eq_left', eqD_t, shaped_q1, true_and, Bool.false_eq_true, false_implies, forall_const, h1, e1]
    refine ⟨_, h0, ?_⟩
    simp only [shaped_q1, eqv_q1, decide_eq_false_iff_not, decide_eq_true_eq, true_and]
    refine ⟨fun hx0 => ⟨_, h0, ?_⟩, fun hx0 => ?_⟩
    · simp only [shaped_q1, eqv_q1, decide_eq_false_iff_not, decide_eq_true_eq, true_and]
      refine ⟨fun hy0 => ?_, fun hy0 => ?_⟩
      · refine st_assign ?_
        simp only [wpVal, String.reduceBEq, es_call, List.flatMap_cons, es_name, es_subn, List.flatMap_nil, List.nil_append, List.cons_append, Nat.reduceAdd, wpN_e, e_call, kdOf_at, lk_miss, lk_hit, call_any, bn_radd, call_n, wpArgs, List.all_cons, ns_name, ns_call, List.all_nil, Bool.and_true, wpArgs1, bn_rmul, ns_sub, e_sub, wpSub, itemD, e_bin, wpBinE, bin_sub, isVar_at, iv_l, e_var, shName_at, gf_miss, frz_nil, gs_hit, sh_s, gs_miss, h3, binSub_i, asInt_i, r_var, rdName_at, h2, rd_s, asSeq_l, e2, Option.some.injEq, exists_eq_left', h1, e1, true_and, gf_hit, h4, Option.map_some, froze_sh]
        have s1 := sx i
        have s2 := sy (n - i)
        refine ⟨ha.1, hm.1, _, hm.2 _ _ s1.fit s2.fit, _, ha.2 _ _ (convP_sz sx sy i).fit (Sz.mul s1 s2).fit, st_nil (hK _ ?_)⟩
        simp only [String.reduceBEq, gs_miss, gf_miss, frz_nil, h1, h2, h3, gs_hit, Option.some.injEq, Slot.sh.injEq, true_and]
        rfl
      · refine st_nil (hK _ ?_)
        simp only [String.reduceBEq, gs_miss, h1, h2, h3, h4, Option.some.injEq, Slot.sh.injEq, true_and]
        rw [zero (.inr hy0)]
    · refine st_nil (hK _ ?_)
      simp only [String.reduceBEq, gs_miss, h1, h2, h3, h4, Option.some.injEq, Slot.sh.injEq, true_and]
      rw [zero (.inl hx0)]
end Mine
end
section
open PySem PySem.W PyProof.Rows PySem.Spec PySem.Calls
namespace Mine
noncomputable def HasSmul (C : Ctx) : Prop := C.dfn (Str.ofString "smul") ∧ ∀ (xs ys : List Int), min xs.length ys.length < 1000 → SzL 1000 xs → SzL 1000 ys → (∀ n, n < min xs.length ys.length → Sz 64 (conv xs ys n)) →
  C.call (Str.ofString "smul") [ql xs, ql ys] (ql ((List.range (min xs.length ys.length)).map (conv xs ys)))
theorem smul_gives (C : Ctx) (hl : HasLet C) (hm : HasMixed C) (xs ys : List Int) (hn : min xs.length ys.length < 1000) (sx : SzL 1000 xs) (sy : SzL 1000 ys) (sz : ∀ n, n < min xs.length ys.length → Sz 64 (conv xs ys n)) :
    Gives C 20 [ql xs, ql ys] (ql ((List.range (min xs.length ys.length)).map (conv xs ys))) := by
  refine ⟨_, rfl, rfl, ?_⟩
  simp only [List.map_cons, List.map_nil, List.zip_cons_cons, List.zip_nil_right, reduceCtorEq]
  refine st_ret ?_
  simp only [es_comp, frz_cons, f1_sh, frz_end, wpN_e, e_comp, wpComp, dot0, String.reduceBEq, get_miss, get_nil, plainIter, isTupT, isEnumE, isFn, ofS_beq, String.reduceEq, decide_false, kdOf_at, lk_miss, lk_hit, beq_self_eq_true, Bool.and_true, wpIter, wpArgs, List.all_cons, ns_call, List.all_nil, wpArgs1, bindT, wpTests, set_miss, set_nil, e_call, compKd, List.map_cons, nk_l, List.lookup_nil, Bool.false_and, Bool.false_eq_true, ↓reduceIte, nk_g, List.map_nil, call_any, bn_let, call_n, bn_mixed, ns_name, isVar_at, iv_l, e_var, shName_at, get_hit, sh_s, iv_c, true_and, bi_min, call_b, wpBi, asInt_i, bi_len, r_var, rdName_at, rd_s, asSeq_l, false_and, reduceCtorEq, or_self, or_false]
  have em : (if ((ys.map q1).length : Int) < ((xs.map q1).length : Int) then ((ys.map q1).length : Int) else ((xs.map q1).length : Int)) = ((min xs.length ys.length : Nat) : Int) := by
    simp only [List.length_map]
    split <;> (first | lia | omega)
  rw [em]
  refine ⟨by decide +kernel, by (first | lia | omega), by (first | lia | omega), fun _ => true, fun d => match d with | .int i => q1 (conv xs ys i.toNat) | _ => .none, fun d hd => ?_, ?_⟩
  · obtain ⟨i, hi, rfl⟩ := List.mem_map.mp hd
    have hi : i < min xs.length ys.length := by simpa using hi
    simp only [forall_const, true_and]
    exact ⟨hl.1, hm.1, _, hm.2 xs ys i (by (first | lia | omega)) (by (first | lia | omega)) (by (first | lia | omega)) sx sy, _, hl.2 _ (sz i hi), rfl⟩
  · rw [filter_T, List.map_map, toNat_ofNat]; simp only [ql, List.map_map]; rfl
theorem ife_two {p : Prop} [Decidable p] {P Q k : PyData → Prop} {d1 d2 : PyData} (h1 : P d1) (h2 : Q d2) (h : k (if p then d1 else d2)) : (p → ∃ d, P d ∧ k d) ∧ (¬ p → ∃ d, Q d ∧ k d) :=
  ⟨fun hp => ⟨_, h1, by rwa [if_pos hp] at h⟩, fun hp => ⟨_, h2, by rwa [if_neg hp] at h⟩⟩
noncomputable def invE (xs L : List Int) (n : Nat) : Nat → Int
  | 0 => if n = 0 then 1 else 0
  | s + 1 => invE xs L n s - xs.getD (s + 1) 0 * L.getD (n - (s + 1)) 0
noncomputable def invL (xs : List Int) : Nat → List Int
  | 0 => []
  | n + 1 => invL xs n ++ [invE xs (invL xs n) n n]
theorem invL_length (xs : List Int) : ∀ n, (invL xs n).length = n
  | 0 => rfl
  | n + 1 => by simp [invL, invL_length xs n]
theorem invL_pre (xs : List Int) (n : Nat) : ∀ m, n ≤ m → ∃ r, invL xs m = invL xs n ++ r
  | 0, h => by
    have : n = 0 := by (first | lia | omega)
    subst this; exact ⟨[], by simp⟩
  | m + 1, h => by
    rcases Nat.lt_or_ge n (m + 1) with q | q
    · obtain ⟨r, e⟩ := invL_pre xs n m (by (first | lia | omega))
      exact ⟨r ++ [invE xs (invL xs m) m m], by rw [invL, e, List.append_assoc, ← e]⟩
    · have : n = m + 1 := by (first | lia | omega)
      subst this; exact ⟨[], by simp⟩
theorem invE_sz {xs L : List Int} {n a b : Nat} (hx : SzL a xs) (hy : SzL b L) : ∀ i, Sz (a + b + i + 1) (invE xs L n i)
  | 0 => by
    unfold invE
    split
    · exact Sz.one
    · exact Sz.zero
  | i + 1 => Sz.sub (invE_sz hx hy i) ((Sz.mul (hx _) (hy _)).le (Nat.le_add_right (a + b) (i + 1)))
noncomputable def HasInv (C : Ctx) : Prop := C.dfn (Str.ofString "sinverse") ∧ ∀ xs : List Int, xs.getD 0 0 = 1 → xs.length < 1000 → SzL 1000 xs → SzL 64 (invL xs xs.length) → C.call (Str.ofString "sinverse") [ql xs] (ql (invL xs xs.length))
theorem inv_gives (C : Ctx) (h0 : HasR0 C) (h1 : HasR1 C) (hl : HasLet C) (hs : HasBin C "rsub" (· - ·)) (hm : HasBin C "rmul" (· * ·)) (hd : HasRdiv C) (xs : List Int) (hx : xs.getD 0 0 = 1) (hn : xs.length < 1000) (sx : SzL 1000 xs) (sz : SzL 64 (invL xs xs.length)) :
    Gives C 21 [ql xs] (ql (invL xs xs.length)) := by
  have hpos : 0 < xs.length := by
    cases xs with
    | nil => simp at hx
    | cons _ _ => simp
  have e0 : pyAt (xs.map q1) 0 = some (q1 1) := by
    have := pyAt_map (f := q1) (xs := xs) (j := 0) (by (first | lia | omega)) (by (first | lia | omega))
    rw [this]
    exact congrArg (fun x => some (q1 x)) hx
  have szn : ∀ n, n ≤ xs.length → SzL 64 (invL xs n) := fun n h i => by
    obtain ⟨r, e⟩ := invL_pre xs n xs.length h
    have hi := sz i
    rcases Nat.lt_or_ge i n with q | q
    · rw [e] at hi
      simp only [List.getD_eq_getElem?_getD] at hi ⊢
      rw [List.getElem?_append_left (by rw [invL_length]; exact q)] at hi
      exact hi
    · simp only [List.getD_eq_getElem?_getD]
      rw [List.getElem?_eq_none (by rw [invL_length]; exact q)]
      exact Sz.zero
  refine ⟨_, rfl, rfl, ?_⟩
  simp only [List.map_cons, List.map_nil, List.zip_cons_cons, List.zip_nil_right, reduceCtorEq]
  refine st_if ?_
  simp only [es_bool, frz_cons, f1_sh, frz_end, Nat.reduceAdd, wpN_t, t_and, t_cmp, cmpOk, cmp_eq, isVar_at, kdOf_at, String.reduceBEq, lk_miss, lk_hit, iv_g, r_glob, wpN_e, e_glob, rdE_sub, e_sub, wpSub, itemD, e_const, c_int, asInt_i, iv_l, r_var, rdName_at, get_hit, rd_s, asSeq_l, e0, Option.some.injEq, exists_eq_left', eqD_t, shaped_q1, true_and, Bool.false_eq_true, false_implies, forall_const, cmp_gt, decide_eq_true_eq, decide_eq_false_iff_not, rdE_const, rdE_call, e_call, call_any, bi_len, call_b, wpBi, ns_name]
  refine ⟨fun _ => ⟨_, h0, ?_⟩, fun h => absurd (show (0 : Int) < ((xs.map q1).length : Int) by simpa using hpos) h⟩
  simp only [shaped_q1, eqv_q1, decide_eq_true_eq, decide_eq_false_iff_not, true_and]
  refine ⟨fun h => absurd h (by decide), fun _ => st_nil ?_⟩
  simp only
  refine st_assign ?_
  simp only [wpVal, List.length_nil, Nat.reduceLeDiff, wpArgs, List.all_nil, wpArgs1, Nat.reduceAdd, es_list, List.flatMap_nil, frz_cons, f1_sh, frz_end, String.reduceBEq, set_miss, set_nil, true_and]
  refine st_for ?_
  simp only [wpIter, isFn, beq_self_eq_true, kdOf_at, String.reduceBEq, lk_miss, lk_hit, Bool.and_true, wpArgs, List.all_cons, ns_call, List.all_nil, wpArgs1, es_call, List.flatMap_cons, es_len, List.flatMap_nil, List.nil_append, frz_cons, f1_sh, f1_nil, frz_end, Nat.reduceAdd, wpN_e, e_call, call_any, bi_len, call_b, wpBi, ns_name, asInt_i, isVar_at, iv_l, r_var, rdName_at, get_hit, rd_s, asSeq_l, List.length_map, true_and, ofS_beq, String.reduceEq, decide_false, Bool.false_eq_true, false_and, reduceCtorEq, or_self, or_false]
  refine ⟨by (first | lia | omega), by (first | lia | omega), ?_⟩
  refine wpF_range _ _ (fun i σ => σ.get (Str.ofString "a") = some (.sh (ql xs)) ∧ σ.get (Str.ofString "found") = some (.own ((invL xs i).map q1))) ⟨rfl, rfl⟩ (fun σ h => ?_) fun i σ hi h K hK => ?_
  · obtain ⟨g1, g2⟩ := h
    refine st_ret ?_
    simp only [es_name, wpN_e, isVar_at, kdOf_at, String.reduceBEq, lk_miss, lk_hit, iv_l, e_var, shName_at, gf_hit, g2, Option.map_some, froze_own, sh_s]
    rfl
  · obtain ⟨g1, g2⟩ := h
    have hi : i < xs.length := by simpa using hi
    simp only [bindT]
    refine st_assign ?_
    simp only [wpVal, es_ife, frz_nil, Nat.reduceAdd, wpN_e, e_ife, kdOf_at, String.reduceBEq, lk_miss, lk_hit, e_glob, wpN_t, t_cmp, cmpOk, cmp_eq, rdE_const, e_const, c_int, isVar_at, iv_l, r_var, rdName_at, gs_hit, rd_s, eqD_i, decide_eq_true_eq, decide_eq_false_iff_not, true_and]
    refine ife_two h1 h0 ?_
    have ei : (if (i : Int) = 0 then q1 1 else q1 0) = q1 (invE xs (invL xs i) i 0) := by
      unfold invE
      by_cases h : i = 0
      · subst h; simp
      · rw [if_neg (by (first | lia | omega)), if_neg h]
    rw [ei]
    refine st_for ?_
    simp only [wpIter, isFn, beq_self_eq_true, kdOf_at, String.reduceBEq, lk_miss, lk_hit, Bool.and_true, wpArgs, List.all_cons, ns_const, ns_bin, List.all_nil, wpArgs1, es_call, List.flatMap_cons, es_const, es_bin, es_name, List.cons_append, List.nil_append, List.flatMap_nil, Nat.reduceAdd, wpN_e, e_bin, wpBinE, bin_add, e_const, c_int, isVar_at, iv_l, e_var, shName_at, gf_hit, gs_miss, gs_hit, Option.map_some, froze_sh, sh_s, binAdd_i, asInt_i, true_and, ofS_beq, String.reduceEq, decide_false, Bool.false_eq_true, and_false, and_self, reduceCtorEq, e_call, call_any, false_and, or_self, or_false]
    refine ⟨by decide, by decide, by (first | lia | omega), by (first | lia | omega), ?_⟩
    have hr : ((i : Int) + 1 - 1).toNat = i := by (first | lia | omega)
    rw [hr]
    refine wpF_range _ _ (fun s σ => σ.get (Str.ofString "a") = some (.sh (ql xs)) ∧ σ.get (Str.ofString "found") = some (.own ((invL xs i).map q1)) ∧ σ.get (Str.ofString "at") = some (.sh (.int i)) ∧ σ.get (Str.ofString "total") = some (.sh (q1 (invE xs (invL xs i) i s)))) ?_ (fun σ h => ?_) fun s σ hs' h K' hK' => ?_
    · simp only [String.reduceBEq, gf_miss, frz_nil, gs_miss, g1, g2, gf_hit, gs_hit, Option.map_some, froze_sh, and_self]
    · obtain ⟨g1, g2, g3, g4⟩ := h
      refine st_append ?_
      simp only [String.reduceBEq, es_call, List.flatMap_cons, es_name, es_subn, List.flatMap_nil, List.nil_append, List.cons_append, gf_miss, frz_nil, g2, Option.some.injEq, Slot.own.injEq, exists_eq', Nat.reduceAdd, exists_eq_left', wpN_e, e_call, kdOf_at, lk_miss, lk_hit, call_any, bn_let, call_n, wpArgs, List.all_cons, ns_call, List.all_nil, Bool.and_true, wpArgs1, bn_rdiv, ns_name, ns_sub, e_sub, wpSub, itemD, e_const, c_int, asInt_i, isVar_at, iv_l, r_var, rdName_at, g1, rd_s, asSeq_l, e0, e_var, shName_at, gf_hit, g4, Option.map_some, froze_sh, sh_s, true_and]
      have fin := sz i
      refine ⟨hl.1, hd.1, _, hd.2 _ (invE_sz sx (szn i (by (first | lia | omega))) i).fit, _, hl.2 _ ?_, ?_⟩
      · have hh := szn (i + 1) (by (first | lia | omega)) i
        rw [List.getD_eq_getElem?_getD, invL, List.getElem?_append_right (by rw [invL_length]; exact Nat.le_refl _)] at hh
        simpa [invL_length] using hh
      · refine ⟨by rw [List.length_map, invL_length]; (first | lia | omega), st_nil (hK _ ?_)⟩
        simp only [String.reduceBEq, gs_miss, gf_miss, frz_nil, g1, gs_hit, Option.some.injEq, Slot.own.injEq, true_and]
        simp [invL]
    · obtain ⟨g1, g2, g3, g4⟩ := h
      have p1 : pyAt (xs.map q1) (1 + (s : Int)) = some (q1 (xs.getD (s + 1) 0)) := by
        rw [pyAt_map (by (first | lia | omega)) (by (first | lia | omega))]
        congr 3; (first | lia | omega)
      have p2 : pyAt ((invL xs i).map q1) ((i : Int) - (1 + (s : Int))) = some (q1 ((invL xs i).getD (i - (s + 1)) 0)) := by
        rw [pyAt_map (by (first | lia | omega)) (by rw [invL_length]; (first | lia | omega))]
        congr 3; (first | lia | omega)
      simp only [bindT]
      refine st_assign ?_
      simp only [wpVal, String.reduceBEq, es_call, List.flatMap_cons, es_name, es_subn, List.flatMap_nil, List.nil_append, List.cons_append, Nat.reduceAdd, wpN_e, e_call, kdOf_at, lk_miss, lk_hit, call_any, bn_rsub, call_n, wpArgs, List.all_cons, ns_name, ns_call, List.all_nil, Bool.and_true, wpArgs1, bn_rmul, ns_sub, e_sub, wpSub, itemD, e_bin, wpBinE, bin_sub, isVar_at, iv_l, e_var, shName_at, gf_miss, frz_nil, gs_hit, sh_s, gs_miss, g3, binSub_i, asInt_i, r_var, rdName_at, g2, rd_o, asSeq_l, p2, Option.some.injEq, exists_eq_left', g1, rd_s, p1, true_and, gf_hit, g4, Option.map_some, froze_sh]
      have s1 := sx (s + 1)
      have s2 := szn i (by (first | lia | omega)) (i - (s + 1))
      refine ⟨hs.1, hm.1, _, hm.2 _ _ s1.fit s2.fit, _, hs.2 _ _ (invE_sz sx (szn i (by (first | lia | omega))) s).fit (Sz.mul s1 s2).fit, st_nil (hK' _ ?_)⟩
      simp only [String.reduceBEq, gs_miss, gf_miss, frz_nil, g1, g2, g3, gs_hit, Option.some.injEq, Slot.sh.injEq, true_and]
      rfl
end Mine
end
section
open PySem PySem.W PyProof.Rows PySem.Spec PySem.Calls
namespace Mine
noncomputable def trimN (xs : List Int) : Nat → Nat
  | 0 => 0
  | n + 1 => if xs.getD n 0 = 0 then trimN xs n else n + 1
noncomputable def trim (xs : List Int) : List Int := xs.take (trimN xs xs.length)
theorem sliceD_hi {ds : List PyData} {n : Nat} : sliceD ds none (some (n : Int)) none = some (ds.take n) := by simp [sliceD]
theorem sliceD_lo {ds : List PyData} {n : Nat} : sliceD ds (some (n : Int)) none none = some (ds.drop n) := by simp [sliceD]
theorem trim_take {xs : List Int} {n : Nat} (h : trimN xs n = trimN xs xs.length) (e : trimN xs n = n) : xs.take n = trim xs := by
  unfold trim; rw [← h, e]
noncomputable def HasQtrim (C : Ctx) : Prop := C.dfn (Str.ofString "qtrim") ∧ ∀ xs : List Int, C.call (Str.ofString "qtrim") [ql xs] (ql (trim xs))
theorem qtrim_gives (C : Ctx) (xs : List Int) : Gives C 23 [ql xs] (ql (trim xs)) := by
  refine ⟨_, rfl, rfl, ?_⟩
  simp only [List.map_cons, List.map_nil, List.zip_cons_cons, List.zip_nil_right, reduceCtorEq]
  refine st_assign ?_
  simp only [wpVal, es_len, frz_cons, f1_sh, frz_end, Nat.reduceAdd, String.reduceBEq, set_miss, set_nil, wpN_e, e_call, kdOf_at, lk_miss, lk_hit, call_any, bi_len, call_b, wpBi, ns_name, isVar_at, iv_l, r_var, rdName_at, get_hit, rd_s, asSeq_l, true_and]
  refine st_while (fun n σ => n ≤ xs.length ∧ σ.get (Str.ofString "row") = some (.sh (ql xs)) ∧ σ.get (Str.ofString "size") = some (.sh (.int n)) ∧ trimN xs n = trimN xs xs.length) xs.length ⟨Nat.le_refl _, rfl, ?_, rfl⟩ fun n σ hI K hK => ?_
  · simp only [List.length_map, String.reduceBEq, get_miss, get_hit]
  · obtain ⟨hn, g1, g2, g3⟩ := hI
    simp only [Nat.reduceAdd, wpN_t, t_and, t_cmp, cmpOk, cmp_eq, rdE_const, wpN_e, e_const, c_int, rdE_sub, e_sub, wpSub, itemD, asInt_i, e_bin, wpBinE, bin_sub, isVar_at, kdOf_at, String.reduceBEq, lk_miss, lk_hit, iv_l, e_var, shName_at, g2, sh_s, binSub_i, r_var, rdName_at, g1, rd_s, asSeq_l, true_and, Bool.false_eq_true, false_implies, forall_const, cmp_gt, decide_eq_true_eq, decide_eq_false_iff_not]
    cases n with
    | zero =>
      refine ⟨fun h => absurd h (by (first | lia | omega)), fun _ => ?_⟩
      refine st_ret ?_
      simp only [String.reduceBEq, es_call, List.flatMap_cons, es_subn, List.flatMap_nil, List.nil_append, frz_nil, wpN_e, e_call, kdOf_at, lk_miss, lk_hit, call_any, bi_list, call_b, wpBi, wpArgs, List.all_cons, ns_sub, List.all_nil, Bool.and_true, wpArgs1, e_sub, wpSub, wpPart, asList_l, isVar_at, iv_l, e_var, shName_at, g2, sh_s, asInt_i, sliceD_hi, Option.some.injEq, exists_eq_left', r_var, rdName_at, g1, rd_s, true_and]
      rw [← List.map_take, trim_take g3 rfl]
    | succ n =>
      refine ⟨fun _ => ?_, fun h => absurd (show (0 : Int) < ((n + 1 : Nat) : Int) by (first | lia | omega)) h⟩
      have e : pyAt (xs.map q1) (((n + 1 : Nat) : Int) - 1) = some (q1 (xs.getD n 0)) := by
        rw [pyAt_map (by (first | lia | omega)) (by (first | lia | omega))]
        congr 3; (first | lia | omega)
      simp only [e, Option.some.injEq, exists_eq_left', asSeq_t, pyAt_0, eqD_i, decide_eq_true_eq, decide_eq_false_iff_not]
      refine ⟨fun h0 => ?_, fun h0 => ?_⟩
      · refine st_aug ?_
        simp only [Nat.reduceAdd, wpN_e, e_const, c_int, asInt_i, shName_at, g2, sh_s]
        refine st_nil (hK n _ (Nat.lt_succ_self n) ⟨by (first | lia | omega), ?_, ?_, ?_⟩)
        · simp only [String.reduceBEq, gs_miss, g1]
        · simp only [gs_hit, Option.some.injEq, Slot.sh.injEq]
          congr 3; (first | lia | omega)
        · rw [← g3, trimN, if_pos h0]
      · refine st_ret ?_
        simp only [String.reduceBEq, es_call, List.flatMap_cons, es_subn, List.flatMap_nil, List.nil_append, frz_nil, wpN_e, e_call, kdOf_at, lk_miss, lk_hit, call_any, bi_list, call_b, wpBi, wpArgs, List.all_cons, ns_sub, List.all_nil, Bool.and_true, wpArgs1, e_sub, wpSub, wpPart, asList_l, isVar_at, iv_l, e_var, shName_at, g2, sh_s, asInt_i, sliceD_hi, Option.some.injEq, exists_eq_left', r_var, rdName_at, g1, rd_s, true_and]
        rw [← List.map_take, trim_take g3 (by rw [trimN, if_neg h0])]
noncomputable def HasZtrim (C : Ctx) : Prop := C.dfn (Str.ofString "ztrim") ∧ ∀ xs : List Int, C.call (Str.ofString "ztrim") [zl xs] (zl (trim xs))
theorem ztrim_gives (C : Ctx) (xs : List Int) : Gives C 30 [zl xs] (zl (trim xs)) := by
  refine ⟨_, rfl, rfl, ?_⟩
  simp only [List.map_cons, List.map_nil, List.zip_cons_cons, List.zip_nil_right, reduceCtorEq]
  refine st_assign ?_
  simp only [wpVal, es_len, frz_cons, f1_sh, frz_end, Nat.reduceAdd, String.reduceBEq, set_miss, set_nil, wpN_e, e_call, kdOf_at, lk_miss, lk_hit, call_any, bi_len, call_b, wpBi, ns_name, isVar_at, iv_l, r_var, rdName_at, get_hit, rd_s, asSeq_l, true_and]
  refine st_while (fun n σ => n ≤ xs.length ∧ σ.get (Str.ofString "row") = some (.sh (zl xs)) ∧ σ.get (Str.ofString "size") = some (.sh (.int n)) ∧ trimN xs n = trimN xs xs.length) xs.length ⟨Nat.le_refl _, rfl, ?_, rfl⟩ fun n σ hI K hK => ?_
  · simp only [List.length_map, String.reduceBEq, get_miss, get_hit]
  · obtain ⟨hn, g1, g2, g3⟩ := hI
    simp only [Nat.reduceAdd, wpN_t, t_and, t_cmp, cmpOk, cmp_eq, rdE_const, wpN_e, e_const, c_int, rdE_sub, e_sub, wpSub, itemD, e_bin, wpBinE, bin_sub, isVar_at, kdOf_at, String.reduceBEq, lk_miss, lk_hit, iv_l, e_var, shName_at, g2, sh_s, binSub_i, asInt_i, r_var, rdName_at, g1, rd_s, asSeq_l, true_and, Bool.false_eq_true, false_implies, forall_const, cmp_gt, decide_eq_true_eq, decide_eq_false_iff_not]
    cases n with
    | zero =>
      refine ⟨fun h => absurd h (by (first | lia | omega)), fun _ => ?_⟩
      refine st_ret ?_
      simp only [String.reduceBEq, es_call, List.flatMap_cons, es_subn, List.flatMap_nil, List.nil_append, frz_nil, wpN_e, e_call, kdOf_at, lk_miss, lk_hit, call_any, bi_list, call_b, wpBi, wpArgs, List.all_cons, ns_sub, List.all_nil, Bool.and_true, wpArgs1, e_sub, wpSub, wpPart, asList_l, isVar_at, iv_l, e_var, shName_at, g2, sh_s, asInt_i, sliceD_hi, Option.some.injEq, exists_eq_left', r_var, rdName_at, g1, rd_s, true_and]
      rw [← List.map_take, trim_take g3 rfl]
    | succ n =>
      refine ⟨fun _ => ?_, fun h => absurd (show (0 : Int) < ((n + 1 : Nat) : Int) by (first | lia | omega)) h⟩
      have e : pyAt (xs.map PyData.int) (((n + 1 : Nat) : Int) - 1) = some (.int (xs.getD n 0)) := by
        rw [pyAt_map (by (first | lia | omega)) (by (first | lia | omega))]
        congr 3; (first | lia | omega)
      simp only [e, Option.some.injEq, exists_eq_left', eqD_i, decide_eq_true_eq, decide_eq_false_iff_not]
      refine ⟨fun h0 => ?_, fun h0 => ?_⟩
      · refine st_aug ?_
        simp only [Nat.reduceAdd, wpN_e, e_const, c_int, asInt_i, shName_at, g2, sh_s]
        refine st_nil (hK n _ (Nat.lt_succ_self n) ⟨by (first | lia | omega), ?_, ?_, ?_⟩)
        · simp only [String.reduceBEq, gs_miss, g1]
        · simp only [gs_hit, Option.some.injEq, Slot.sh.injEq]
          congr 3; (first | lia | omega)
        · rw [← g3, trimN, if_pos h0]
      · refine st_ret ?_
        simp only [String.reduceBEq, es_call, List.flatMap_cons, es_subn, List.flatMap_nil, List.nil_append, frz_nil, wpN_e, e_call, kdOf_at, lk_miss, lk_hit, call_any, bi_list, call_b, wpBi, wpArgs, List.all_cons, ns_sub, List.all_nil, Bool.and_true, wpArgs1, e_sub, wpSub, wpPart, asList_l, isVar_at, iv_l, e_var, shName_at, g2, sh_s, asInt_i, sliceD_hi, Option.some.injEq, exists_eq_left', r_var, rdName_at, g1, rd_s, true_and]
        rw [← List.map_take, trim_take g3 (by rw [trimN, if_neg h0])]
noncomputable def addL (xs ys : List Int) : List Int := trim ((List.range (max xs.length ys.length)).map fun i => xs.getD i 0 + ys.getD i 0)
theorem getD_out {xs : List Int} {i : Nat} (h : ¬ i < xs.length) : xs.getD i 0 = 0 := by
  rw [List.getD_eq_getElem?_getD, List.getElem?_eq_none (by (first | lia | omega))]; rfl
theorem glob_or {p : Prop} [Decidable p] {P k : PyData → Prop} {o : Option PyData} {d1 d2 d : PyData} (h2 : P d2) (e1 : p → o = some d1) (hd : d = if p then d1 else d2) (h : k d) : (p → ∃ x, o = some x ∧ k x) ∧ (¬ p → ∃ x, P x ∧ k x) :=
  ⟨fun hp => ⟨d, by rw [e1 hp, hd, if_pos hp], h⟩, fun hp => ⟨d, by rw [hd, if_neg hp]; exact h2, h⟩⟩
theorem pick_q {xs : List Int} {i : Nat} : q1 (xs.getD i 0) = if (i : Int) < ((xs.map q1).length : Int) then q1 (xs.getD i 0) else q1 0 := by
  split
  · rfl
  · rename_i h
    rw [getD_out (by simpa using h)]
theorem max_len (xs ys : List Int) (f : Int → PyData) : (if ((ys.map f).length : Int) > ((xs.map f).length : Int) then ((ys.map f).length : Int) else ((xs.map f).length : Int)) = ((max xs.length ys.length : Nat) : Int) := by
  simp only [List.length_map]
  split <;> (first | lia | omega)
noncomputable def FitL (xs : List Int) : Prop := ∀ i, Fit (xs.getD i 0)
theorem SzL.fit {k : Nat} {xs : List Int} (h : SzL k xs) (hk : k ≤ 4000 := by (first | lia | omega)) : FitL xs := fun i => (h i).fit hk
noncomputable def HasQadd (C : Ctx) : Prop := C.dfn (Str.ofString "qadd") ∧ ∀ xs ys : List Int, FitL xs → FitL ys → xs.length < 1000 → ys.length < 1000 → C.call (Str.ofString "qadd") [ql xs, ql ys] (ql (addL xs ys))
theorem qadd_gives (C : Ctx) (h0 : HasR0 C) (ht : HasQtrim C) (ha : HasBin C "radd" (· + ·)) (xs ys : List Int) (fx : FitL xs) (fy : FitL ys) (lx : xs.length < 1000) (ly : ys.length < 1000) : Gives C 24 [ql xs, ql ys] (ql (addL xs ys)) := by
  refine ⟨_, rfl, rfl, ?_⟩
  simp only [List.map_cons, List.map_nil, List.zip_cons_cons, List.zip_nil_right, reduceCtorEq]
  refine st_assign ?_
  simp only [wpVal, String.reduceBEq, es_call, List.flatMap_cons, es_len, List.flatMap_nil, List.nil_append, frz_cons, f1_sh, frz_end, Nat.reduceAdd, set_miss, set_nil, wpN_e, e_call, kdOf_at, lk_miss, lk_hit, call_any, bi_max, call_b, wpBi, wpArgs, List.all_cons, ns_call, List.all_nil, Bool.and_true, wpArgs1, bi_len, ns_name, asInt_i, isVar_at, iv_c, r_var, rdName_at, get_miss, get_hit, rd_s, asSeq_l, true_and]
  rw [max_len]
  refine st_ret ?_
  simp only [String.reduceBEq, es_call, List.flatMap_cons, es_comp, List.flatMap_nil, List.nil_append, frz_cons, f1_sh, frz_end, wpN_e, e_call, kdOf_at, lk_miss, lk_hit, call_any, bn_qtrim, call_n, wpArgs, List.all_cons, ns_comp, List.all_nil, Bool.and_true, wpArgs1, e_comp, wpComp, dot0, get_miss, get_nil, plainIter, isTupT, isEnumE, isFn, ofS_beq, String.reduceEq, decide_false, beq_self_eq_true, wpIter, ns_name, bindT, wpTests, set_miss, set_nil, compKd, List.map_cons, nk_l, List.lookup_nil, Bool.false_and, Bool.false_eq_true, ↓reduceIte, nk_g, List.map_nil, bn_radd, ns_ife, e_ife, e_sub, wpSub, itemD, isVar_at, iv_l, e_var, shName_at, get_hit, sh_s, iv_c, r_var, rdName_at, rd_s, asSeq_l, e_glob, wpN_t, t_cmp, cmpOk, cmp_lt, decide_eq_true_eq, decide_eq_false_iff_not, rdE_call, bi_len, call_b, wpBi, asInt_i, true_and, false_and, reduceCtorEq, or_self, or_false]
  refine ⟨ht.1, by decide +kernel, by (first | lia | omega), by (first | lia | omega), fun _ => true, fun d => match d with | .int i => q1 (xs.getD i.toNat 0 + ys.getD i.toNat 0) | _ => .none, fun d hd => ?_, ?_⟩
  · obtain ⟨i, hi, rfl⟩ := List.mem_map.mp hd
    simp only [asInt_i, forall_const, true_and]
    refine ⟨ha.1, ?_⟩
    refine glob_or (d := q1 (xs.getD i 0)) h0 (fun h => pyAt_map (by (first | lia | omega)) (by simpa using h)) pick_q ?_
    refine glob_or (d := q1 (ys.getD i 0)) h0 (fun h => pyAt_map (by (first | lia | omega)) (by simpa using h)) pick_q ?_
    exact ⟨_, ha.2 _ _ (fx i) (fy i), rfl⟩
  · rw [filter_T, List.map_map, toNat_ofNat]
    refine ⟨_, ?_, rfl⟩
    have := ht.2 ((List.range (max xs.length ys.length)).map fun i => xs.getD i 0 + ys.getD i 0)
    simp only [ql, List.map_map] at this
    exact this
end Mine
end
section
open PySem PySem.W PyProof.Rows PySem.Spec PySem.Calls
namespace Mine
noncomputable def unq : PyData → Int
  | .tuple (.int x :: _) => x
  | .int x => x
  | _ => 0
noncomputable def negL (xs : List Int) : List Int := xs.map fun x => -x
noncomputable def subL (xs ys : List Int) : List Int := addL xs (negL ys)
noncomputable def scaleL (xs : List Int) (r : Int) : List Int := if r = 0 then [] else xs.map fun x => x * r
theorem negL_getD (xs : List Int) (i : Nat) : (negL xs).getD i 0 = -(xs.getD i 0) := by
  unfold negL
  rw [List.getD_eq_getElem?_getD, List.getElem?_map, List.getD_eq_getElem?_getD]
  cases xs[i]? <;> rfl
theorem negL_len (xs : List Int) : (negL xs).length = xs.length := List.length_map _
theorem Fit.neg {x : Int} (h : Fit x) : Fit (-x) := by
  unfold Fit at *
  rwa [Int.natAbs_neg]
theorem FitL.neg {xs : List Int} (h : FitL xs) : FitL (negL xs) := fun i => by rw [negL_getD]; exact (h i).neg
theorem FitL.mem {xs : List Int} (h : FitL xs) {x : Int} (hx : x ∈ xs) : Fit x := by
  obtain ⟨i, hi⟩ := List.mem_iff_getElem?.mp hx
  have := h i
  rwa [List.getD_eq_getElem?_getD, hi] at this
noncomputable def HasQneg (C : Ctx) : Prop := C.dfn (Str.ofString "qneg") ∧ ∀ xs : List Int, C.call (Str.ofString "qneg") [ql xs] (ql (negL xs))
theorem qneg_gives (C : Ctx) (hn : HasRneg C) (xs : List Int) : Gives C 25 [ql xs] (ql (negL xs)) := by
  refine ⟨_, rfl, rfl, ?_⟩
  simp only [List.map_cons, List.map_nil, List.zip_cons_cons, List.zip_nil_right, reduceCtorEq]
  refine st_ret ?_
  simp only [es_comp, frz_cons, f1_sh, frz_end, wpN_e, e_comp, wpComp, dot0, String.reduceBEq, get_miss, get_nil, plainIter, isTupT, isEnumE, wpIter, bindT, wpTests, set_miss, set_nil, e_call, compKd, kdOf_at, List.map_cons, nk_l, lk_miss, List.lookup_nil, Bool.false_and, Bool.false_eq_true, ↓reduceIte, nk_g, List.map_nil, lk_hit, call_any, bn_rneg, call_n, wpArgs, List.all_cons, ns_name, List.all_nil, Bool.and_true, wpArgs1, isVar_at, iv_l, e_var, shName_at, get_hit, sh_s, true_and, asSeq_l]
  refine ⟨by decide +kernel, fun _ => true, fun d => q1 (-(unq d)), fun d hd => ?_, ?_⟩
  · obtain ⟨x, hx, rfl⟩ := List.mem_map.mp hd
    simp only [forall_const, true_and]
    exact ⟨hn.1, _, hn.2 x, rfl⟩
  · rw [filter_T]; simp only [ql, negL, List.map_map]; rfl
noncomputable def HasQsub (C : Ctx) : Prop := C.dfn (Str.ofString "qsub") ∧ ∀ xs ys : List Int, FitL xs → FitL ys → xs.length < 1000 → ys.length < 1000 → C.call (Str.ofString "qsub") [ql xs, ql ys] (ql (subL xs ys))
theorem qsub_gives (C : Ctx) (hn : HasQneg C) (ha : HasQadd C) (xs ys : List Int) (fx : FitL xs) (fy : FitL ys) (lx : xs.length < 1000) (ly : ys.length < 1000) : Gives C 26 [ql xs, ql ys] (ql (subL xs ys)) := by
  refine ⟨_, rfl, rfl, ?_⟩
  simp only [List.map_cons, List.map_nil, List.zip_cons_cons, List.zip_nil_right, reduceCtorEq]
  refine st_ret ?_
  simp only [String.reduceBEq, es_call, List.flatMap_cons, es_name, List.flatMap_nil, List.cons_append, List.nil_append, frz_cons, f1_sh, frz_end, wpN_e, e_call, kdOf_at, lk_miss, lk_hit, call_any, bn_qadd, call_n, wpArgs, List.all_cons, ns_name, ns_call, List.all_nil, Bool.and_true, wpArgs1, bn_qneg, isVar_at, iv_l, e_var, shName_at, get_miss, get_hit, sh_s, true_and]
  exact ⟨ha.1, hn.1, _, hn.2 ys, _, ha.2 xs (negL ys) fx fy.neg lx (by rw [negL_len]; exact ly), rfl⟩
noncomputable def HasQscale (C : Ctx) : Prop := C.dfn (Str.ofString "qscale") ∧ ∀ (xs : List Int) (r : Int), FitL xs → Fit r → C.call (Str.ofString "qscale") [ql xs, q1 r] (ql (scaleL xs r))
theorem qscale_gives (C : Ctx) (hm : HasBin C "rmul" (· * ·)) (xs : List Int) (r : Int) (fx : FitL xs) (fr : Fit r) : Gives C 27 [ql xs, q1 r] (ql (scaleL xs r)) := by
  refine ⟨_, rfl, rfl, ?_⟩
  simp only [List.map_cons, List.map_nil, List.zip_cons_cons, List.zip_nil_right, reduceCtorEq]
  refine st_ret ?_
  simp only [es_ife, frz_cons, f1_sh, frz_end, wpN_e, e_ife, e_comp, wpComp, dot0, String.reduceBEq, get_miss, get_nil, plainIter, isTupT, isEnumE, wpIter, bindT, wpTests, set_miss, set_nil, e_call, compKd, kdOf_at, List.map_cons, nk_l, lk_miss, List.lookup_nil, Bool.false_and, Bool.false_eq_true, ↓reduceIte, nk_g, beq_self_eq_true, lk_hit, Bool.and_true, List.map_nil, call_any, bn_rmul, call_n, wpArgs, List.all_cons, ns_name, List.all_nil, wpArgs1, isVar_at, iv_c, e_var, shName_at, get_hit, sh_s, iv_l, true_and, asSeq_l, e_list, List.length_nil, Nat.reduceLeDiff, wpN_t, t_cmp, cmpOk, cmp_ne, Bool.not_eq_eq_eq_not, Bool.not_true, Bool.not_false, rdE_const, e_const, c_int, rdE_sub, e_sub, wpSub, itemD, asInt_i, r_var, rdName_at, rd_s, asSeq_t, pyAt_0, Option.some.injEq, exists_eq_left', eqD_i, decide_eq_false_iff_not, decide_eq_true_eq]
  refine ⟨fun h => ⟨by decide +kernel, fun _ => true, fun d => q1 (unq d * r), fun d hd => ?_, ?_⟩, fun h => ?_⟩
  · obtain ⟨x, hx, rfl⟩ := List.mem_map.mp hd
    simp only [forall_const, true_and]
    exact ⟨hm.1, _, hm.2 x r (fx.mem hx) fr, rfl⟩
  · rw [filter_T]; simp only [ql, scaleL, if_neg h, List.map_map]; rfl
  · simp only [scaleL, if_pos h]; rfl
/-- the product, as «qmul» makes it -/
noncomputable def mulI (x : Int) (ys : List Int) (i : Nat) (L : List Int) : Nat → List Int
  | 0 => L
  | j + 1 => (mulI x ys i L j).set (i + j) ((mulI x ys i L j).getD (i + j) 0 + x * ys.getD j 0)
noncomputable def mulO (xs ys : List Int) : Nat → List Int
  | 0 => List.replicate (xs.length + ys.length - 1) 0
  | i + 1 => mulI (xs.getD i 0) ys i (mulO xs ys i) ys.length
noncomputable def mulL (xs ys : List Int) : List Int := if xs.length = 0 ∨ ys.length = 0 then [] else mulO xs ys xs.length
theorem mulI_len {x : Int} {ys : List Int} {i : Nat} {L : List Int} : ∀ j, (mulI x ys i L j).length = L.length
  | 0 => rfl
  | j + 1 => by rw [mulI, List.length_set, mulI_len j]
theorem mulO_len {xs ys : List Int} : ∀ i, (mulO xs ys i).length = xs.length + ys.length - 1
  | 0 => by simp [mulO]
  | i + 1 => by rw [mulO, mulI_len, mulO_len i]
theorem getD_set {L : List Int} {i j : Nat} {x : Int} : (L.set i x).getD j 0 = if j = i ∧ i < L.length then x else L.getD j 0 := by
  simp only [List.getD_eq_getElem?_getD, List.getElem?_set]
  by_cases h : i = j
  · subst h
    by_cases q : i < L.length
    · simp [q]
    · simp [q]
  · rw [if_neg h, if_neg (by (first | lia | omega))]
theorem SzL.set {k : Nat} {L : List Int} {i : Nat} {x : Int} (h : SzL k L) (hx : Sz (k + 1) x) : SzL (k + 1) (L.set i x) := fun j => by
  rw [getD_set]
  split
  · exact hx
  · exact (h j).le (Nat.le_succ k)
theorem mulI_sz {x : Int} {ys : List Int} {i k : Nat} {L : List Int} (hk : 2000 ≤ k) (hL : SzL k L) (hx : Sz 1000 x) (hy : SzL 1000 ys) : ∀ j, SzL (k + j) (mulI x ys i L j)
  | 0 => hL
  | j + 1 => by
    have ih := mulI_sz (i := i) hk hL hx hy j
    exact ih.set (Sz.add (ih _) ((Sz.mul hx (hy j)).le (by show 1000 + 1000 ≤ k + j; (first | lia | omega))))
theorem SzL.zeros {k n : Nat} : SzL k (List.replicate n 0) := fun i => by
  have : (List.replicate n (0 : Int)).getD i 0 = 0 := by
    rw [List.getD_eq_getElem?_getD, List.getElem?_replicate]
    split <;> rfl
  rw [this]; exact Sz.zero
theorem mulO_sz {xs ys : List Int} (hx : SzL 1000 xs) (hy : SzL 1000 ys) : ∀ i, SzL (2000 + i * ys.length) (mulO xs ys i)
  | 0 => SzL.zeros
  | i + 1 => by
    have := mulI_sz (i := i) (by (first | lia | omega)) (mulO_sz hx hy i) (hx i) hy ys.length
    rw [Nat.succ_mul, ← Nat.add_assoc]
    exact this
theorem rep_q (n : Nat) (x : Int) : rep n [q1 x] = (List.replicate n x).map q1 := by
  unfold rep
  induction n with
  | zero => rfl
  | succ n ih => simp only [List.replicate_succ, List.flatten_cons, ih]; rfl
theorem enum_at {f : Int → PyData} {xs : List Int} {i : Nat} {d : PyData} (h : ((xs.map f).zipIdx.map fun p => PyData.tuple [.int p.2, p.1])[i]? = some d) : i < xs.length ∧ d = .tuple [.int i, f (xs.getD i 0)] := by
  simp only [List.getElem?_map, List.getElem?_zipIdx, Option.map_eq_some_iff] at h
  obtain ⟨⟨a, n⟩, ⟨b, ⟨c, hc, e1⟩, e2⟩, e3⟩ := h
  cases e2
  subst e1 e3
  have hi : i < xs.length := (List.getElem?_eq_some_iff.mp hc).1
  refine ⟨hi, ?_⟩
  rw [List.getD_eq_getElem?_getD, hc]
  simp
noncomputable def HasQmul (C : Ctx) : Prop := C.dfn (Str.ofString "qmul") ∧ ∀ xs ys : List Int, SzL 1000 xs → SzL 1000 ys → xs.length * ys.length ≤ 1000 → xs.length < 1000 → ys.length < 1000 → C.call (Str.ofString "qmul") [ql xs, ql ys] (ql (mulL xs ys))
theorem qmul_gives (C : Ctx) (h0 : HasR0 C) (ha : HasBin C "radd" (· + ·)) (hm : HasBin C "rmul" (· * ·)) (xs ys : List Int) (sx : SzL 1000 xs) (sy : SzL 1000 ys) (hl : xs.length * ys.length ≤ 1000) (lx : xs.length < 1000) (ly : ys.length < 1000) :
    Gives C 28 [ql xs, ql ys] (ql (mulL xs ys)) := by
  refine ⟨_, rfl, rfl, ?_⟩
  simp only [List.map_cons, List.map_nil, List.zip_cons_cons, List.zip_nil_right, reduceCtorEq]
  refine st_if ?_
  simp only [es_bool, frz_cons, f1_sh, frz_end, Nat.reduceAdd, wpN_t, t_or, forall_const, reduceCtorEq, false_implies, and_true, t_cmp, cmpOk, cmp_eq, rdE_const, wpN_e, e_const, c_int, rdE_call, e_call, kdOf_at, String.reduceBEq, lk_miss, lk_hit, call_any, bi_len, call_b, wpBi, ns_name, eqD_i, decide_eq_true_eq, decide_eq_false_iff_not, isVar_at, iv_l, r_var, rdName_at, get_miss, get_hit, rd_s, asSeq_l, List.length_map, true_and]
  have mz : xs.length = 0 ∨ ys.length = 0 → mulL xs ys = [] := fun h => by rw [mulL, if_pos h]
  refine ⟨fun h => st_ret ?_, fun hx0 => ⟨fun h => st_ret ?_, fun hy0 => st_nil ?_⟩⟩
  · simp only [es_list, List.flatMap_nil, frz_cons, f1_sh, frz_end, wpN_e, e_list, List.length_nil, Nat.reduceLeDiff, wpArgs, List.all_nil, wpArgs1, true_and]
    rw [mz (.inl (by (first | lia | omega)))]; rfl
  · simp only [es_list, List.flatMap_nil, frz_cons, f1_sh, frz_end, wpN_e, e_list, List.length_nil, Nat.reduceLeDiff, wpArgs, List.all_nil, wpArgs1, true_and]
    rw [mz (.inr (by (first | lia | omega)))]; rfl
  simp only
  refine st_assign ?_
  simp only [wpVal, List.length_cons, List.length_nil, Nat.reduceAdd, Nat.reduceLeDiff, wpArgs, List.all_cons, ns_name, List.all_nil, Bool.and_true, wpArgs1, es_bin, es_list, List.flatMap_cons, es_name, List.flatMap_nil, List.cons_append, List.nil_append, es_len, es_const, frz_cons, f1_sh, frz_end, String.reduceBEq, set_miss, set_nil, wpN_e, e_bin, wpBinE, bin_sub, e_const, c_int, bin_add, e_call, kdOf_at, lk_miss, lk_hit, call_any, bi_len, call_b, wpBi, isVar_at, iv_l, r_var, rdName_at, get_miss, get_hit, rd_s, asSeq_l, true_and, binAdd_i, binSub_i, asInt_i, e_glob]
  refine ⟨_, h0, ?_⟩
  simp only [List.length_map]
  refine ⟨by (first | lia | omega), by (first | lia | omega), ?_⟩
  have e1 : ((xs.length : Int) + (ys.length : Int) - 1).toNat = xs.length + ys.length - 1 := by (first | lia | omega)
  rw [e1, rep_q]
  refine st_for ?_
  simp only [wpIter, isFn, ofS_beq, String.reduceEq, decide_false, kdOf_at, String.reduceBEq, lk_miss, lk_hit, beq_self_eq_true, Bool.and_true, Bool.false_eq_true, wpArgs, List.all_cons, ns_name, List.all_nil, wpArgs1, es_call, List.flatMap_cons, es_name, List.flatMap_nil, List.cons_append, List.nil_append, frz_cons, f1_sh, f1_miss, f1_nil, frz_end, Nat.reduceAdd, wpN_e, isVar_at, iv_l, e_var, shName_at, get_hit, sh_s, true_and, false_and, asList_l, reduceCtorEq, e_call, call_any, and_false, or_false, false_or]
  refine wpF_idx _ (fun i σ => σ.get (Str.ofString "b") = some (.sh (ql ys)) ∧ σ.get (Str.ofString "found") = some (.own ((mulO xs ys i).map q1))) ⟨rfl, rfl⟩ (fun σ h => ?_) fun i d σ _ hd h K hK => ?_
  · obtain ⟨g1, g2⟩ := h
    refine st_ret ?_
    simp only [es_name, wpN_e, isVar_at, kdOf_at, String.reduceBEq, lk_miss, lk_hit, iv_l, e_var, shName_at, gf_hit, g2, Option.map_some, froze_own, sh_s]
    rw [mulL, if_neg (by (first | lia | omega))]
    simp
  · obtain ⟨g1, g2⟩ := h
    obtain ⟨hi, rfl⟩ := enum_at hd
    simp only [bindT, asTup_t]
    refine st_for ?_
    simp only [wpIter, isFn, ofS_beq, String.reduceEq, decide_false, kdOf_at, String.reduceBEq, lk_miss, lk_hit, beq_self_eq_true, Bool.and_true, Bool.false_eq_true, wpArgs, List.all_cons, ns_name, List.all_nil, wpArgs1, es_call, List.flatMap_cons, es_name, List.flatMap_nil, List.cons_append, List.nil_append, Nat.reduceAdd, wpN_e, isVar_at, iv_l, e_var, shName_at, gf_hit, gs_miss, g1, Option.map_some, froze_sh, sh_s, true_and, false_and, asList_l, reduceCtorEq, e_call, call_any, and_false, or_false, false_or]
    refine wpF_idx _ (fun j σ => σ.get (Str.ofString "b") = some (.sh (ql ys)) ∧ σ.get (Str.ofString "one") = some (.sh (.int i)) ∧ σ.get (Str.ofString "left") = some (.sh (q1 (xs.getD i 0))) ∧ σ.get (Str.ofString "found") = some (.own ((mulI (xs.getD i 0) ys i (mulO xs ys i) j).map q1))) ?_ (fun σ h => ?_) fun j d σ _ hd h K' hK' => ?_
    · simp only [gf_hit, String.reduceBEq, gs_miss, g1, Option.map_some, froze_sh, gf_miss, frz_nil, gs_hit, g2, Option.some.injEq, Slot.own.injEq, true_and]
      rfl
    · obtain ⟨g1, g2, g3, g4⟩ := h
      refine st_nil (hK _ ⟨g1, ?_⟩)
      rw [g4]
      simp [mulO]
    · obtain ⟨g1, g2, g3, g4⟩ := h
      obtain ⟨hj, rfl⟩ := enum_at hd
      have hlen : (mulI (xs.getD i 0) ys i (mulO xs ys i) j).length = xs.length + ys.length - 1 := by rw [mulI_len, mulO_len]
      have p1 : pyAt ((mulI (xs.getD i 0) ys i (mulO xs ys i) j).map q1) ((i : Int) + (j : Int)) = some (q1 ((mulI (xs.getD i 0) ys i (mulO xs ys i) j).getD (i + j) 0)) := by
        rw [pyAt_map (by (first | lia | omega)) (by rw [hlen]; (first | lia | omega))]
        congr 3
      have hb : i * ys.length + ys.length ≤ 1000 := by
        have := Nat.mul_le_mul_right ys.length (show i + 1 ≤ xs.length by (first | lia | omega))
        rw [Nat.succ_mul] at this; (first | lia | omega)
      have s3 := mulI_sz (i := i) (by (first | lia | omega)) (mulO_sz sx sy i) (sx i) sy j (i + j)
      simp only [bindT, asTup_t]
      refine st_item ?_
      simp only [String.reduceBEq, es_call, List.flatMap_cons, es_subn, es_name, List.flatMap_nil, List.cons_append, List.nil_append, gf_miss, frz_nil, gs_miss, g4, Option.some.injEq, Slot.own.injEq, Nat.reduceAdd, wpN_e, e_bin, wpBinE, bin_add, isVar_at, kdOf_at, lk_miss, lk_hit, iv_l, e_var, shName_at, gs_hit, sh_s, g2, binAdd_i, asInt_i, e_call, call_any, bn_radd, call_n, wpArgs, List.all_cons, ns_sub, ns_call, List.all_nil, Bool.and_true, wpArgs1, bn_rmul, ns_name, gf_hit, Option.map_some, froze_sh, g3, true_and, e_sub, wpSub, itemD, r_var, rdName_at, rd_o, asSeq_l, p1, exists_eq_left']
      refine ⟨ha.1, hm.1, _, hm.2 _ _ (sx i).fit (sy j).fit, _, ha.2 _ _ (s3.fit (by (first | lia | omega))) (Sz.mul (sx i) (sy j)).fit, ?_⟩
      simp only [List.length_map, hlen]
      refine ⟨by (first | lia | omega), by (first | lia | omega), st_nil (hK' _ ?_)⟩
      simp only [String.reduceBEq, gs_miss, gf_miss, frz_nil, g1, g2, gf_hit, g3, Option.map_some, froze_sh, gs_hit, Option.some.injEq, Slot.own.injEq, true_and]
      have e2 : ((i : Int) + (j : Int)).toNat = i + j := by (first | lia | omega)
      rw [e2, mulI, List.map_set]
end Mine
end
section
open PySem PySem.W PyProof.Rows PySem.Spec PySem.Calls
namespace Mine
noncomputable def HasZdeg (C : Ctx) : Prop := C.dfn (Str.ofString "zdegree") ∧ ∀ xs : List Int, C.call (Str.ofString "zdegree") [zl xs] (.int ((xs.length : Int) - 1))
theorem zdeg_gives (C : Ctx) (xs : List Int) : Gives C 31 [zl xs] (.int ((xs.length : Int) - 1)) := by
  refine ⟨_, rfl, rfl, ?_⟩
  simp only [List.map_cons, List.map_nil, List.zip_cons_cons, List.zip_nil_right, reduceCtorEq]
  refine st_ret ?_
  simp only [es_bin, es_len, es_const, List.nil_append, frz_cons, f1_sh, frz_end, wpN_e, e_bin, wpBinE, bin_sub, e_const, c_int, e_call, kdOf_at, String.reduceBEq, lk_miss, lk_hit, call_any, bi_len, call_b, wpBi, ns_name, binSub_i, isVar_at, iv_l, r_var, rdName_at, get_hit, rd_s, asSeq_l, List.length_map, and_self]
noncomputable def leadL (xs : List Int) : Int := xs.getD (xs.length - 1) 0
noncomputable def HasZlead (C : Ctx) : Prop := C.dfn (Str.ofString "zlead") ∧ ∀ xs : List Int, C.call (Str.ofString "zlead") [zl xs] (.int (leadL xs))
theorem zlead_gives (C : Ctx) (xs : List Int) : Gives C 32 [zl xs] (.int (leadL xs)) := by
  refine ⟨_, rfl, rfl, ?_⟩
  simp only [List.map_cons, List.map_nil, List.zip_cons_cons, List.zip_nil_right, reduceCtorEq]
  refine st_ret ?_
  simp only [es_ife, frz_cons, f1_sh, frz_end, wpN_e, e_ife, e_sub, wpSub, itemD, e_neg, asInt_i, e_const, c_int, isVar_at, kdOf_at, lk_hit, iv_l, r_var, rdName_at, get_hit, rd_s, asSeq_l, wpN_t, t_cmp, cmpOk, cmp_gt, decide_eq_true_eq, decide_eq_false_iff_not, rdE_const, rdE_call, e_call, String.reduceBEq, lk_miss, call_any, bi_len, call_b, wpBi, ns_name, List.length_map, true_and]
  refine ⟨fun h => ⟨_, pyAt_last (f := PyData.int) (xs := xs) (by intro e; subst e; simp at h), rfl⟩, fun h => ?_⟩
  have : xs = [] := by
    cases xs with
    | nil => rfl
    | cons _ _ => exact absurd (by simp) h
  subst this; rfl
theorem get_or {p : Prop} [Decidable p] {k : PyData → Prop} {o : Option PyData} {d1 d2 d : PyData} (e1 : p → o = some d1) (hd : d = if p then d1 else d2) (h : k d) : (p → ∃ x, o = some x ∧ k x) ∧ (¬ p → k d2) :=
  ⟨fun hp => ⟨d, by rw [e1 hp, hd, if_pos hp], h⟩, fun hp => by rwa [hd, if_neg hp] at h⟩
theorem pick_z {xs : List Int} {i : Nat} : PyData.int (xs.getD i 0) = if (i : Int) < ((xs.map PyData.int).length : Int) then .int (xs.getD i 0) else .int 0 := by
  split
  · rfl
  · rename_i h
    rw [getD_out (by simpa using h)]
noncomputable def HasZadd (C : Ctx) : Prop := C.dfn (Str.ofString "zadd") ∧ ∀ xs ys : List Int, xs.length < 1000 → ys.length < 1000 → C.call (Str.ofString "zadd") [zl xs, zl ys] (zl (addL xs ys))
theorem zadd_gives (C : Ctx) (ht : HasZtrim C) (xs ys : List Int) (lx : xs.length < 1000) (ly : ys.length < 1000) : Gives C 33 [zl xs, zl ys] (zl (addL xs ys)) := by
  refine ⟨_, rfl, rfl, ?_⟩
  simp only [List.map_cons, List.map_nil, List.zip_cons_cons, List.zip_nil_right, reduceCtorEq]
  refine st_assign ?_
  simp only [wpVal, String.reduceBEq, es_call, List.flatMap_cons, es_len, List.flatMap_nil, List.nil_append, frz_cons, f1_sh, frz_end, Nat.reduceAdd, set_miss, set_nil, wpN_e, e_call, kdOf_at, lk_miss, lk_hit, call_any, bi_max, call_b, wpBi, wpArgs, List.all_cons, ns_call, List.all_nil, Bool.and_true, wpArgs1, bi_len, ns_name, asInt_i, isVar_at, iv_c, r_var, rdName_at, get_miss, get_hit, rd_s, asSeq_l, true_and]
  rw [max_len]
  refine st_ret ?_
  simp only [String.reduceBEq, es_call, List.flatMap_cons, es_comp, List.flatMap_nil, List.nil_append, frz_cons, f1_sh, frz_end, wpN_e, e_call, kdOf_at, lk_miss, lk_hit, call_any, bn_ztrim, call_n, wpArgs, List.all_cons, ns_comp, List.all_nil, Bool.and_true, wpArgs1, e_comp, wpComp, dot0, get_miss, get_nil, plainIter, isTupT, isEnumE, isFn, ofS_beq, String.reduceEq, decide_false, beq_self_eq_true, wpIter, ns_name, bindT, wpTests, set_miss, set_nil, e_bin, wpBinE, bin_add, e_ife, e_sub, wpSub, itemD, isVar_at, compKd, List.map_cons, nk_l, List.lookup_nil, Bool.false_and, Bool.false_eq_true, ↓reduceIte, nk_g, List.map_nil, iv_l, e_var, shName_at, get_hit, sh_s, iv_c, r_var, rdName_at, rd_s, asSeq_l, e_const, c_int, wpN_t, t_cmp, cmpOk, cmp_lt, decide_eq_true_eq, decide_eq_false_iff_not, rdE_call, bi_len, call_b, wpBi, asInt_i, true_and, binAdd_i, false_and, reduceCtorEq, or_self, or_false]
  refine ⟨ht.1, by decide +kernel, by (first | lia | omega), by (first | lia | omega), fun _ => true, fun d => match d with | .int i => .int (xs.getD i.toNat 0 + ys.getD i.toNat 0) | _ => .none, fun d hd => ?_, ?_⟩
  · obtain ⟨i, hi, rfl⟩ := List.mem_map.mp hd
    simp only [asInt_i, forall_const, true_and]
    refine get_or (d := PyData.int (xs.getD i 0)) (fun h => pyAt_map (by (first | lia | omega)) (by simpa using h)) pick_z ?_
    refine get_or (d := PyData.int (ys.getD i 0)) (fun h => pyAt_map (by (first | lia | omega)) (by simpa using h)) pick_z ?_
    simp only [binAdd_i]
    rfl
  · rw [filter_T, List.map_map, toNat_ofNat]
    refine ⟨_, ?_, rfl⟩
    have := ht.2 ((List.range (max xs.length ys.length)).map fun i => xs.getD i 0 + ys.getD i 0)
    simp only [zl, List.map_map] at this
    exact this
noncomputable def HasZneg (C : Ctx) : Prop := C.dfn (Str.ofString "zneg") ∧ ∀ xs : List Int, C.call (Str.ofString "zneg") [zl xs] (zl (negL xs))
theorem zneg_gives (C : Ctx) (xs : List Int) : Gives C 34 [zl xs] (zl (negL xs)) := by
  refine ⟨_, rfl, rfl, ?_⟩
  simp only [List.map_cons, List.map_nil, List.zip_cons_cons, List.zip_nil_right, reduceCtorEq]
  refine st_ret ?_
  simp only [es_comp, frz_cons, f1_sh, frz_end, wpN_e, e_comp, wpComp, dot0, String.reduceBEq, get_miss, get_nil, plainIter, isTupT, isEnumE, wpIter, bindT, wpTests, set_miss, set_nil, e_neg, isVar_at, compKd, kdOf_at, List.map_cons, nk_l, lk_miss, List.lookup_nil, Bool.false_and, Bool.false_eq_true, ↓reduceIte, List.map_nil, lk_hit, iv_l, e_var, shName_at, get_hit, sh_s, asSeq_l, true_and]
  refine ⟨by decide +kernel, fun _ => true, fun d => .int (-(unq d)), fun d hd => ?_, ?_⟩
  · obtain ⟨x, hx, rfl⟩ := List.mem_map.mp hd
    simp only [asInt_i, forall_const, true_and]
    rfl
  · rw [filter_T]; simp only [zl, negL, List.map_map]; rfl
noncomputable def HasZsub (C : Ctx) : Prop := C.dfn (Str.ofString "zsub") ∧ ∀ xs ys : List Int, xs.length < 1000 → ys.length < 1000 → C.call (Str.ofString "zsub") [zl xs, zl ys] (zl (subL xs ys))
theorem zsub_gives (C : Ctx) (hn : HasZneg C) (ha : HasZadd C) (xs ys : List Int) (lx : xs.length < 1000) (ly : ys.length < 1000) : Gives C 35 [zl xs, zl ys] (zl (subL xs ys)) := by
  refine ⟨_, rfl, rfl, ?_⟩
  simp only [List.map_cons, List.map_nil, List.zip_cons_cons, List.zip_nil_right, reduceCtorEq]
  refine st_ret ?_
  simp only [String.reduceBEq, es_call, List.flatMap_cons, es_name, List.flatMap_nil, List.cons_append, List.nil_append, frz_cons, f1_sh, frz_end, wpN_e, e_call, kdOf_at, lk_miss, lk_hit, call_any, bn_zadd, call_n, wpArgs, List.all_cons, ns_name, ns_call, List.all_nil, Bool.and_true, wpArgs1, bn_zneg, isVar_at, iv_l, e_var, shName_at, get_miss, get_hit, sh_s, true_and]
  exact ⟨ha.1, hn.1, _, hn.2 ys, _, ha.2 xs (negL ys) lx (by rw [negL_len]; exact ly), rfl⟩
noncomputable def HasZscale (C : Ctx) : Prop := C.dfn (Str.ofString "zscale") ∧ ∀ (xs : List Int) (r : Int), FitL xs → Fit r → C.call (Str.ofString "zscale") [zl xs, .int r] (zl (scaleL xs r))
theorem zscale_gives (C : Ctx) (xs : List Int) (r : Int) (fx : FitL xs) (fr : Fit r) : Gives C 36 [zl xs, .int r] (zl (scaleL xs r)) := by
  refine ⟨_, rfl, rfl, ?_⟩
  simp only [List.map_cons, List.map_nil, List.zip_cons_cons, List.zip_nil_right, reduceCtorEq]
  refine st_ret ?_
  simp only [es_ife, frz_cons, f1_sh, frz_end, wpN_e, e_ife, e_comp, wpComp, dot0, String.reduceBEq, get_miss, get_nil, plainIter, isTupT, isEnumE, wpIter, bindT, wpTests, set_miss, set_nil, e_bin, wpBinE, bin_mul, isVar_at, compKd, kdOf_at, List.map_cons, nk_l, lk_miss, List.lookup_nil, Bool.false_and, Bool.false_eq_true, ↓reduceIte, beq_self_eq_true, lk_hit, Bool.and_true, List.map_nil, iv_c, e_var, shName_at, get_hit, sh_s, iv_l, asSeq_l, true_and, e_list, List.length_nil, Nat.reduceLeDiff, wpArgs, List.all_nil, wpArgs1, wpN_t, t_cmp, cmpOk, cmp_ne, Bool.not_eq_eq_eq_not, Bool.not_true, Bool.not_false, rdE_const, e_const, c_int, r_var, rdName_at, rd_s, eqD_i, decide_eq_false_iff_not, decide_eq_true_eq]
  refine ⟨fun h => ⟨by decide +kernel, fun _ => true, fun d => .int (unq d * r), fun d hd => ?_, ?_⟩, fun h => ?_⟩
  · obtain ⟨x, hx, rfl⟩ := List.mem_map.mp hd
    simp only [binMul_i, forall_const, true_and]
    exact ⟨fx.mem hx, fr, rfl⟩
  · rw [filter_T]; simp only [zl, scaleL, if_neg h, List.map_map]; rfl
  · simp only [scaleL, if_pos h]; rfl
theorem rep_z (n : Nat) (x : Int) : rep n [PyData.int x] = (List.replicate n x).map PyData.int := by
  unfold rep
  induction n with
  | zero => rfl
  | succ n ih => simp only [List.replicate_succ, List.flatten_cons, ih]; rfl
noncomputable def raiseL (xs : List Int) (n : Nat) : List Int := if xs.length = 0 then [] else List.replicate n 0 ++ xs
noncomputable def HasZraise (C : Ctx) : Prop := C.dfn (Str.ofString "zraise") ∧ ∀ (xs : List Int) (n : Nat), n < 1000 → xs.length < 1000 → C.call (Str.ofString "zraise") [zl xs, .int n] (zl (raiseL xs n))
theorem zraise_gives (C : Ctx) (xs : List Int) (n : Nat) (hn : n < 1000) (hl : xs.length < 1000) : Gives C 37 [zl xs, .int n] (zl (raiseL xs n)) := by
  refine ⟨_, rfl, rfl, ?_⟩
  simp only [List.map_cons, List.map_nil, List.zip_cons_cons, List.zip_nil_right, reduceCtorEq]
  refine st_ret ?_
  simp only [es_ife, frz_cons, f1_sh, frz_end, wpN_e, e_ife, e_bin, wpBinE, bin_add, e_call, kdOf_at, String.reduceBEq, lk_miss, lk_hit, call_any, bi_list, call_b, wpBi, wpArgs, List.all_cons, ns_name, List.all_nil, Bool.and_true, wpArgs1, isVar_at, iv_l, e_var, shName_at, get_hit, sh_s, asList_l, true_and, List.length_cons, List.length_nil, Nat.reduceAdd, Nat.reduceLeDiff, ns_const, binAdd_l, List.length_map, get_miss, asInt_i, e_const, c_int, e_list, wpN_t, t_cmp, cmpOk, cmp_gt, decide_eq_true_eq, decide_eq_false_iff_not, rdE_const, rdE_call, bi_len, r_var, rdName_at, rd_s, asSeq_l]
  refine ⟨fun h => ⟨by (first | lia | omega), by (first | lia | omega), ?_, ?_⟩, fun h => ?_⟩
  · rw [toNat_ofNat, rep_z, List.length_map, List.length_replicate]; (first | lia | omega)
  · rw [toNat_ofNat, rep_z, raiseL, if_neg (by (first | lia | omega))]; simp
  · rw [raiseL, if_pos (by (first | lia | omega))]; rfl
noncomputable def HasZcontent (C : Ctx) : Prop := C.dfn (Str.ofString "zcontent") ∧ ∀ xs : List Int, C.call (Str.ofString "zcontent") [zl xs] (.int (gcdAll xs))
theorem zcontent_gives (C : Ctx) (hg : HasGcdAll C) (xs : List Int) : Gives C 38 [zl xs] (.int (gcdAll xs)) := by
  refine ⟨_, rfl, rfl, ?_⟩
  simp only [List.map_cons, List.map_nil, List.zip_cons_cons, List.zip_nil_right, reduceCtorEq]
  refine st_ret ?_
  simp only [String.reduceBEq, es_call, List.flatMap_cons, es_name, List.flatMap_nil, List.cons_append, List.nil_append, frz_cons, f1_sh, frz_end, wpN_e, e_call, kdOf_at, lk_miss, lk_hit, call_any, bn_gcd_all, call_n, wpArgs, List.all_cons, ns_name, List.all_nil, Bool.and_true, wpArgs1, isVar_at, iv_l, e_var, shName_at, get_hit, sh_s, true_and]
  exact ⟨hg.1, _, hg.2 xs, rfl⟩
noncomputable def divL (xs : List Int) (k : Int) : List Int := xs.map fun x => x.fdiv k
noncomputable def HasZdivided (C : Ctx) : Prop := C.dfn (Str.ofString "zdivided") ∧ ∀ (xs : List Int) (k : Int), k ≠ 0 → Fit k → C.call (Str.ofString "zdivided") [zl xs, .int k] (zl (divL xs k))
theorem zdivided_gives (C : Ctx) (xs : List Int) (r : Int) (h0 : r ≠ 0) (fr : Fit r) : Gives C 39 [zl xs, .int r] (zl (divL xs r)) := by
  refine ⟨_, rfl, rfl, ?_⟩
  simp only [List.map_cons, List.map_nil, List.zip_cons_cons, List.zip_nil_right, reduceCtorEq]
  refine st_ret ?_
  simp only [es_comp, frz_cons, f1_sh, frz_end, wpN_e, e_comp, wpComp, dot0, String.reduceBEq, get_miss, get_nil, plainIter, isTupT, isEnumE, wpIter, bindT, wpTests, set_miss, set_nil, e_bin, wpBinE, bin_div, isVar_at, compKd, kdOf_at, List.map_cons, nk_l, lk_miss, List.lookup_nil, Bool.false_and, Bool.false_eq_true, ↓reduceIte, beq_self_eq_true, lk_hit, Bool.and_true, List.map_nil, iv_c, e_var, shName_at, get_hit, sh_s, asInt_i, iv_l, asSeq_l, true_and]
  refine ⟨by decide +kernel, fun _ => true, fun d => .int ((unq d).fdiv r), fun d hd => ?_, ?_⟩
  · obtain ⟨x, hx, rfl⟩ := List.mem_map.mp hd
    simp only [asInt_i, forall_const, true_and]
    exact ⟨h0, fr, rfl⟩
  · rw [filter_T]; simp only [zl, divL, List.map_map]; rfl
noncomputable def primL (xs : List Int) : List Int := if xs.length = 0 then [] else divL xs (if 0 < leadL xs then gcdAll xs else -(gcdAll xs))
noncomputable def HasZprim (C : Ctx) : Prop := C.dfn (Str.ofString "zprimitive") ∧ ∀ xs : List Int, (xs.length ≠ 0 → gcdAll xs ≠ 0 ∧ Fit (gcdAll xs)) → C.call (Str.ofString "zprimitive") [zl xs] (zl (primL xs))
theorem zprim_gives (C : Ctx) (hc : HasZcontent C) (hd : HasZdivided C) (xs : List Int) (hg : xs.length ≠ 0 → gcdAll xs ≠ 0 ∧ Fit (gcdAll xs)) : Gives C 40 [zl xs] (zl (primL xs)) := by
  refine ⟨_, rfl, rfl, ?_⟩
  simp only [List.map_cons, List.map_nil, List.zip_cons_cons, List.zip_nil_right, reduceCtorEq]
  refine st_if ?_
  simp only [es_cmp, frz_cons, f1_sh, frz_end, Nat.reduceAdd, wpN_t, t_cmp, cmpOk, cmp_eq, rdE_const, wpN_e, e_const, c_int, rdE_call, e_call, kdOf_at, String.reduceBEq, lk_miss, lk_hit, call_any, bi_len, call_b, wpBi, ns_name, eqD_i, decide_eq_true_eq, decide_eq_false_iff_not, isVar_at, iv_l, r_var, rdName_at, get_hit, rd_s, asSeq_l, List.length_map, true_and]
  refine ⟨fun h => st_ret ?_, fun h => st_nil ?_⟩
  · simp only [es_list, List.flatMap_nil, frz_cons, f1_sh, frz_end, wpN_e, e_list, List.length_nil, Nat.reduceLeDiff, wpArgs, List.all_nil, wpArgs1, true_and]
    rw [primL, if_pos (by (first | lia | omega))]; rfl
  · simp only
    refine st_assign ?_
    simp only [wpVal, String.reduceBEq, es_call, List.flatMap_cons, es_name, List.flatMap_nil, List.cons_append, List.nil_append, frz_cons, f1_sh, frz_end, Nat.reduceAdd, set_miss, set_nil, wpN_e, e_call, kdOf_at, lk_miss, lk_hit, call_any, bn_zcontent, call_n, wpArgs, List.all_cons, ns_name, List.all_nil, Bool.and_true, wpArgs1, isVar_at, iv_l, e_var, shName_at, get_hit, sh_s, true_and]
    refine ⟨hc.1, _, hc.2 xs, ?_⟩
    refine st_ret ?_
    have hne : xs.length ≠ 0 := by (first | lia | omega)
    obtain ⟨h0, hf⟩ := hg hne
    have e : pyAt (xs.map PyData.int) (-1) = some (.int (leadL xs)) := pyAt_last (by intro e; subst e; simp at hne)
    simp only [String.reduceBEq, es_call, List.flatMap_cons, es_name, es_ife, List.flatMap_nil, List.nil_append, List.cons_append, frz_cons, f1_sh, frz_end, wpN_e, e_call, kdOf_at, lk_miss, lk_hit, call_any, bn_zdivided, call_n, wpArgs, List.all_cons, ns_name, ns_ife, List.all_nil, Bool.and_true, wpArgs1, e_ife, isVar_at, iv_l, e_var, shName_at, get_miss, get_hit, sh_s, e_neg, asInt_i, wpN_t, t_cmp, cmpOk, cmp_gt, decide_eq_true_eq, decide_eq_false_iff_not, rdE_const, e_const, c_int, rdE_sub, e_sub, wpSub, itemD, r_var, rdName_at, rd_s, asSeq_l, e, Option.some.injEq, exists_eq_left', true_and]
    refine ⟨hd.1, fun h => ⟨_, hd.2 xs _ h0 hf, ?_⟩, fun h => ⟨_, hd.2 xs _ (by (first | lia | omega)) hf.neg, ?_⟩⟩
    · rw [primL, if_neg hne, if_pos h]
    · rw [primL, if_neg hne, if_neg h]
noncomputable def derL (xs : List Int) : List Int := ((List.range xs.length).map fun i => xs.getD i 0 * (i : Int)).drop 1
theorem enum_mem {f : Int → PyData} {xs : List Int} {d : PyData} (h : d ∈ (xs.map f).zipIdx.map fun p => PyData.tuple [.int p.2, p.1]) : ∃ i : Nat, i < xs.length ∧ d = .tuple [.int i, f (xs.getD i 0)] := by
  obtain ⟨i, hi⟩ := List.mem_iff_getElem?.mp h
  exact ⟨i, enum_at hi⟩
theorem enum_map {f : Int → PyData} {xs : List Int} {g : PyData → PyData} {h : Nat → PyData} (e : ∀ i, i < xs.length → g (.tuple [.int i, f (xs.getD i 0)]) = h i) : ((xs.map f).zipIdx.map fun p => PyData.tuple [.int p.2, p.1]).map g = (List.range xs.length).map h := by
  refine List.ext_getElem? fun i => ?_
  rw [List.getElem?_map, List.getElem?_map]
  cases q : ((xs.map f).zipIdx.map fun p => PyData.tuple [.int p.2, p.1])[i]? with
  | none =>
    have := List.getElem?_eq_none_iff.mp q
    simp at this
    simp [this]
  | some d =>
    obtain ⟨hi, rfl⟩ := enum_at q
    simpa [hi] using e i hi
noncomputable def HasZderive (C : Ctx) : Prop := C.dfn (Str.ofString "zderive") ∧ ∀ xs : List Int, FitL xs → xs.length < 1000 → C.call (Str.ofString "zderive") [zl xs] (zl (derL xs))
theorem natFit {i : Nat} (h : i < 1000) : Fit (i : Int) := by
  refine Sz.fit (k := 10) ?_
  show ((i : Int)).natAbs < 2 ^ 10
  (first | lia | omega)
theorem zderive_gives (C : Ctx) (xs : List Int) (fx : FitL xs) (hl : xs.length < 1000) : Gives C 41 [zl xs] (zl (derL xs)) := by
  refine ⟨_, rfl, rfl, ?_⟩
  simp only [List.map_cons, List.map_nil, List.zip_cons_cons, List.zip_nil_right, reduceCtorEq]
  refine st_ret ?_
  simp only [frz_cons, f1_sh, frz_end, wpN_e, e_sub, wpSub, wpPart, e_const, c_int, asInt_i, rdE_comp, e_comp, wpComp, dot0, String.reduceBEq, get_miss, get_nil, plainIter, isTupT, isEnumE, isFn, beq_self_eq_true, kdOf_at, lk_miss, lk_hit, Bool.and_true, wpIter, ofS_beq, String.reduceEq, decide_false, Bool.false_eq_true, wpArgs, List.all_cons, ns_name, List.all_nil, wpArgs1, bindT, wpTests, set_miss, set_nil, e_bin, wpBinE, bin_mul, isVar_at, compKd, List.map_cons, nk_l, List.lookup_nil, Bool.false_and, ↓reduceIte, List.map_nil, iv_l, e_var, shName_at, get_hit, sh_s, asList_l, true_and, false_and, reduceCtorEq, e_call, call_any, and_false, or_false, false_or]
  refine ⟨by decide +kernel, fun _ => true, fun d => match d with | .tuple [.int i, .int x] => .int (x * i) | _ => .none, fun d hd => ?_, ?_⟩
  · obtain ⟨i, hi, rfl⟩ := enum_mem hd
    simp only [forall_const, true_and, asTup_t, binMul_i, and_true]
    exact ⟨fx i, natFit (by (first | lia | omega))⟩
  · rw [filter_T, enum_map (h := fun i => .int (xs.getD i 0 * (i : Int))) (fun i _ => rfl)]
    simp [sliceD, derL, zl, List.map_drop]
    rfl
noncomputable def HasCheck (C : Ctx) : Prop := C.dfn (Str.ofString "check_bottom") ∧ ∀ xs : List Int, xs.length ≠ 0 → C.call (Str.ofString "check_bottom") [zl xs] .none
theorem check_gives (C : Ctx) (xs : List Int) (h : xs.length ≠ 0) : Gives C 43 [zl xs] .none := by
  refine ⟨_, rfl, rfl, ?_⟩
  simp only [List.map_cons, List.map_nil, List.zip_cons_cons, List.zip_nil_right]
  refine st_if ?_
  simp only [es_cmp, frz_cons, f1_sh, frz_end, Nat.reduceAdd, wpN_t, t_cmp, cmpOk, cmp_eq, rdE_const, wpN_e, e_const, c_int, rdE_call, e_call, kdOf_at, String.reduceBEq, lk_miss, lk_hit, call_any, bi_len, call_b, wpBi, ns_name, eqD_i, decide_eq_true_eq, decide_eq_false_iff_not, isVar_at, iv_l, r_var, rdName_at, get_hit, rd_s, asSeq_l, List.length_map, true_and]
  refine ⟨fun q => absurd q (by (first | lia | omega)), fun _ => st_nil (st_nil trivial)⟩
end Mine
end
section
open PySem PySem.W PyProof.Rows PySem.Spec PySem.Calls
namespace Mine
noncomputable def Trimmed (xs : List Int) : Prop := xs = [] ∨ leadL xs ≠ 0
theorem trimN_le (xs : List Int) : ∀ n, trimN xs n ≤ n
  | 0 => Nat.le_refl _
  | n + 1 => by
    rw [trimN]
    split
    · exact Nat.le_succ_of_le (trimN_le xs n)
    · exact Nat.le_refl _
theorem trimN_zero (xs : List Int) : ∀ n i, trimN xs n ≤ i → i < n → xs.getD i 0 = 0
  | 0, i, _, h => absurd h (Nat.not_lt_zero i)
  | n + 1, i, h1, h2 => by
    rw [trimN] at h1
    split at h1
    · rename_i h
      rcases Nat.lt_or_ge i n with q | q
      · exact trimN_zero xs n i h1 q
      · have : i = n := by (first | lia | omega)
        rw [this]; exact h
    · (first | lia | omega)
theorem trimN_last (xs : List Int) : ∀ n, trimN xs n ≠ 0 → xs.getD (trimN xs n - 1) 0 ≠ 0
  | 0, h => absurd rfl h
  | n + 1, h => by
    rw [trimN] at h ⊢
    split at h
    · rename_i q
      rw [if_pos q]; exact trimN_last xs n h
    · rename_i q
      rw [if_neg q]; exact q
theorem trim_len (xs : List Int) : (trim xs).length = trimN xs xs.length := by
  rw [trim, List.length_take]
  have := trimN_le xs xs.length
  (first | lia | omega)
theorem trim_getD (xs : List Int) (i : Nat) : (trim xs).getD i 0 = xs.getD i 0 := by
  rcases Nat.lt_or_ge i (trimN xs xs.length) with q | q
  · simp only [List.getD_eq_getElem?_getD, trim, List.getElem?_take, if_pos q]
  · rw [getD_out (by rw [trim_len]; (first | lia | omega))]
    rcases Nat.lt_or_ge i xs.length with r | r
    · exact (trimN_zero xs xs.length i q r).symm
    · exact (getD_out (by (first | lia | omega))).symm
theorem trim_trimmed (xs : List Int) : Trimmed (trim xs) := by
  by_cases h : trimN xs xs.length = 0
  · left
    exact List.eq_nil_of_length_eq_zero (by rw [trim_len, h])
  · right
    rw [leadL, trim_getD, trim_len]
    exact trimN_last xs xs.length h
theorem trimmed_lt {xs ys : List Int} (h : ∀ i, xs.getD i 0 = ys.getD i 0) (hx : Trimmed xs) : xs.length ≤ ys.length := by
  rcases hx with rfl | hx
  · exact Nat.zero_le _
  · rcases Nat.lt_or_ge ys.length xs.length with q | q
    · rw [leadL, h, getD_out (by (first | lia | omega))] at hx
      exact absurd rfl hx
    · exact q
theorem ext_getD {xs ys : List Int} (hl : xs.length = ys.length) (h : ∀ i, xs.getD i 0 = ys.getD i 0) : xs = ys := by
  refine List.ext_getElem hl fun i h1 h2 => ?_
  have := h i
  simpa [List.getD_eq_getElem?_getD, h1, h2] using this
theorem trimmed_ext {xs ys : List Int} (hx : Trimmed xs) (hy : Trimmed ys) (h : ∀ i, xs.getD i 0 = ys.getD i 0) : xs = ys :=
  ext_getD (Nat.le_antisymm (trimmed_lt h hx) (trimmed_lt (fun i => (h i).symm) hy)) h
theorem trim_le {xs : List Int} {n : Nat} (h : ∀ i, n ≤ i → xs.getD i 0 = 0) : (trim xs).length ≤ n := by
  rcases trim_trimmed xs with q | q
  · rw [q]; exact Nat.zero_le _
  · rcases Nat.lt_or_ge n (trim xs).length with r | r
    · rw [leadL, trim_getD, h _ (by (first | lia | omega))] at q
      exact absurd rfl q
    · exact r
theorem trim_id {xs : List Int} (h : Trimmed xs) : trim xs = xs := trimmed_ext (trim_trimmed xs) h (trim_getD xs)
theorem range_getD (f : Nat → Int) (n i : Nat) : ((List.range n).map f).getD i 0 = if i < n then f i else 0 := by
  rw [List.getD_eq_getElem?_getD, List.getElem?_map]
  by_cases h : i < n
  · simp [h]
  · simp [h]
theorem addL_getD (xs ys : List Int) (i : Nat) : (addL xs ys).getD i 0 = xs.getD i 0 + ys.getD i 0 := by
  rw [addL, trim_getD, range_getD]
  split
  · rfl
  · rename_i h
    rw [getD_out (xs := xs) (by (first | lia | omega)), getD_out (xs := ys) (by (first | lia | omega))]; rfl
theorem subL_getD (xs ys : List Int) (i : Nat) : (subL xs ys).getD i 0 = xs.getD i 0 - ys.getD i 0 := by
  rw [subL, addL_getD, negL_getD]; (first | lia | omega)
theorem scaleL_getD (xs : List Int) (r : Int) (i : Nat) : (scaleL xs r).getD i 0 = xs.getD i 0 * r := by
  unfold scaleL
  split
  · rename_i h; subst h; simp
  · rw [List.getD_eq_getElem?_getD, List.getElem?_map, List.getD_eq_getElem?_getD]
    cases xs[i]? with
    | none => simp
    | some x => rfl
theorem raiseL_getD (xs : List Int) (n i : Nat) : (raiseL xs n).getD i 0 = if i < n then 0 else xs.getD (i - n) 0 := by
  unfold raiseL
  by_cases hx : xs.length = 0
  · rw [if_pos hx]
    have : xs = [] := List.eq_nil_of_length_eq_zero hx
    subst this; simp
  · rw [if_neg hx]
    simp only [List.getD_eq_getElem?_getD]
    by_cases h : i < n
    · rw [if_pos h, List.getElem?_append_left (by simpa using h), List.getElem?_replicate, if_pos h]; rfl
    · rw [if_neg h, List.getElem?_append_right (by simp; (first | lia | omega)), List.length_replicate]
theorem scaleL_len {xs : List Int} {r : Int} (h : r ≠ 0) : (scaleL xs r).length = xs.length := by rw [scaleL, if_neg h, List.length_map]
theorem scaleL_trimmed {xs : List Int} {r : Int} (h : r ≠ 0) (hx : Trimmed xs) : Trimmed (scaleL xs r) := by
  rcases hx with rfl | hx
  · left; rw [scaleL, if_neg h]; rfl
  · right
    rw [leadL, scaleL_len h, scaleL_getD]
    exact Int.mul_ne_zero hx h
theorem addL_trimmed (xs ys : List Int) : Trimmed (addL xs ys) := trim_trimmed _
theorem addL_len_le (xs ys : List Int) : (addL xs ys).length ≤ max xs.length ys.length := by
  rw [addL, trim_len]
  have := trimN_le ((List.range (max xs.length ys.length)).map fun i => xs.getD i 0 + ys.getD i 0) ((List.range (max xs.length ys.length)).map fun i => xs.getD i 0 + ys.getD i 0).length
  simpa using this
theorem scaleL_len_le (xs : List Int) (r : Int) : (scaleL xs r).length ≤ xs.length := by
  unfold scaleL; split <;> simp
theorem raiseL_len_le (xs : List Int) (n : Nat) : (raiseL xs n).length ≤ n + xs.length := by
  unfold raiseL; split <;> simp
theorem subL_len_le (xs ys : List Int) : (subL xs ys).length ≤ max xs.length ys.length := by
  have := addL_len_le xs (negL ys)
  rwa [negL_len] at this
theorem SzL.sub {k : Nat} {xs ys : List Int} (hx : SzL k xs) (hy : SzL k ys) : SzL (k + 1) (subL xs ys) := fun i => by rw [subL_getD]; exact (hx i).sub (hy i)
theorem SzL.scale {k m : Nat} {xs : List Int} {r : Int} (hx : SzL k xs) (hr : Sz m r) : SzL (k + m) (scaleL xs r) := fun i => by rw [scaleL_getD]; exact (hx i).mul hr
theorem SzL.raise {k n : Nat} {xs : List Int} (hx : SzL k xs) : SzL k (raiseL xs n) := fun i => by
  rw [raiseL_getD]; split
  · exact Sz.zero
  · exact hx _
theorem SzL.le {k m : Nat} {xs : List Int} (h : SzL k xs) (hk : k ≤ m := by (first | lia | omega)) : SzL m xs := fun i => (h i).le hk
theorem SzL.one {k : Nat} {x : Int} (h : Sz k x) : SzL k [x] := fun i => by
  cases i with
  | zero => exact h
  | succ i => exact Sz.zero
theorem SzL.nil {k : Nat} : SzL k [] := fun i => by simpa using Sz.zero
/-- one turn of the pseudo-division -/
noncomputable def psR (rest b : List Int) : List Int := subL (scaleL rest (leadL b)) (raiseL (scaleL b (leadL rest)) (rest.length - b.length))
noncomputable def psQ (found rest b : List Int) : List Int := subL (scaleL found (leadL b)) (raiseL [-(leadL rest)] (rest.length - b.length))
/-- the pseudo-remainder of a by b, where b is one shorter -/
noncomputable def premF (a b : List Int) (i : Nat) : Int := a.getD i 0 * leadL b - leadL a * (if i = 0 then 0 else b.getD (i - 1) 0)
noncomputable def premC (a b : List Int) (i : Nat) : Int := premF a b i * leadL b - premF a b (b.length - 1) * b.getD i 0
noncomputable def premL (a b : List Int) : List Int := trim ((List.range (b.length - 1)).map (premC a b))
noncomputable def pquo (a b : List Int) : List Int :=
  if b.length ≤ (psR a b).length then scaleL (psQ (psQ [] a b) (psR a b) b) ((leadL b) ^ 0) else scaleL (psQ [] a b) ((leadL b) ^ 1)
theorem psR_getD {a b : List Int} (h : a.length = b.length + 1) (i : Nat) : (psR a b).getD i 0 = premF a b i := by
  rw [psR, subL_getD, scaleL_getD, raiseL_getD, show a.length - b.length = 1 by (first | lia | omega), premF]
  by_cases q : i = 0
  · subst q; simp
  · rw [if_neg (by (first | lia | omega)), if_neg q, scaleL_getD, Int.mul_comm (leadL a)]
theorem premF_hi {a b : List Int} (h : a.length = b.length + 1) (hb : b.length ≠ 0) {i : Nat} (hi : b.length ≤ i) : premF a b i = 0 := by
  rw [premF, if_neg (by (first | lia | omega))]
  rcases Nat.lt_or_ge b.length i with q | q
  · rw [getD_out (xs := a) (by (first | lia | omega)), getD_out (xs := b) (by (first | lia | omega))]; simp
  · have : i = b.length := by (first | lia | omega)
    subst this
    have e1 : leadL a = a.getD b.length 0 := by rw [leadL, h]; rfl
    rw [e1, leadL, Int.sub_self]
theorem premC_hi {a b : List Int} (h : a.length = b.length + 1) (hb : b.length ≠ 0) {i : Nat} (hi : b.length - 1 ≤ i) : premC a b i = 0 := by
  rw [premC]
  rcases Nat.lt_or_ge (b.length - 1) i with q | q
  · rw [premF_hi h hb (by (first | lia | omega)), getD_out (xs := b) (by (first | lia | omega))]; simp
  · have : i = b.length - 1 := by (first | lia | omega)
    subst this
    exact Int.sub_self _
theorem psR_len {a b : List Int} (h : a.length = b.length + 1) (hb : b.length ≠ 0) : (psR a b).length ≤ b.length := by
  have e : psR a b = trim (psR a b) := (trim_id (addL_trimmed _ _)).symm
  rw [e]
  refine trim_le fun i hi => ?_
  rw [psR_getD h, premF_hi h hb hi]
theorem premL_getD {a b : List Int} (h : a.length = b.length + 1) (hb : b.length ≠ 0) (i : Nat) : (premL a b).getD i 0 = premC a b i := by
  rw [premL, trim_getD, range_getD]
  split
  · rfl
  · rw [premC_hi h hb (by (first | lia | omega))]
theorem psR2_getD {a b : List Int} (h : a.length = b.length) (i : Nat) : (psR a b).getD i 0 = a.getD i 0 * leadL b - leadL a * b.getD i 0 := by
  rw [psR, subL_getD, scaleL_getD, raiseL_getD, show a.length - b.length = 0 by (first | lia | omega), if_neg (by (first | lia | omega)), scaleL_getD, Int.mul_comm (leadL a)]
  rfl
theorem psR2_len {a b : List Int} (h : a.length = b.length) (hb : b.length ≠ 0) : (psR a b).length < b.length := by
  have e : psR a b = trim (psR a b) := (trim_id (addL_trimmed _ _)).symm
  have : (trim (psR a b)).length ≤ b.length - 1 := by
    refine trim_le fun i hi => ?_
    rw [psR2_getD h]
    rcases Nat.lt_or_ge (b.length - 1) i with q | q
    · rw [getD_out (xs := a) (by (first | lia | omega)), getD_out (xs := b) (by (first | lia | omega))]; simp
    · have : i = b.length - 1 := by (first | lia | omega)
      subst this
      rw [leadL, leadL, h, Int.mul_comm, Int.sub_self]
  rw [e]; (first | lia | omega)
theorem prem_two {a b : List Int} (h : a.length = b.length + 1) (hb : b.length ≠ 0) (hl : leadL b ≠ 0) (q : (psR a b).length = b.length) : scaleL (psR (psR a b) b) (leadL b ^ 0) = premL a b := by
  refine trimmed_ext (scaleL_trimmed (by simp) (addL_trimmed _ _)) (trim_trimmed _) fun i => ?_
  rw [scaleL_getD, psR2_getD q, premL_getD h hb]
  have e : leadL (psR a b) = (psR a b).getD (b.length - 1) 0 := by rw [leadL, q]
  rw [e, psR_getD h, psR_getD h, premC]
  simp
theorem prem_one {a b : List Int} (h : a.length = b.length + 1) (hb : b.length ≠ 0) (hl : leadL b ≠ 0) (q : (psR a b).length < b.length) : scaleL (psR a b) (leadL b ^ 1) = premL a b := by
  refine trimmed_ext (scaleL_trimmed (by rw [Int.pow_succ, Int.pow_zero, Int.one_mul]; exact hl) (addL_trimmed _ _)) (trim_trimmed _) fun i => ?_
  have z : (psR a b).getD (b.length - 1) 0 = 0 := getD_out (by (first | lia | omega))
  rw [scaleL_getD, premL_getD h hb, premC, ← psR_getD h, ← psR_getD h, z, Int.pow_succ, Int.pow_zero]
  simp
end Mine
end
section
open PySem PySem.W PyProof.Rows PySem.Spec PySem.Calls
namespace Mine
theorem Fit.ofSz {k : Nat} {x : Int} (h : Sz k x) (hk : k ≤ 4000) : Fit x := h.fit hk
theorem leadL_sz {k : Nat} {xs : List Int} (h : SzL k xs) : Sz k (leadL xs) := h _
theorem psR_sz {k : Nat} {R b : List Int} (hR : SzL k R) (hb : SzL 500 b) : SzL (k + 501) (psR R b) := by
  refine SzL.sub (k := k + 500) (hR.scale (leadL_sz hb)) ?_
  have := (hb.scale (leadL_sz hR)).raise (n := R.length - b.length)
  rwa [Nat.add_comm] at this
theorem psQ_sz {k : Nat} {Q R b : List Int} (hQ : SzL k Q) (hR : SzL k R) (hb : SzL 500 b) : SzL (k + 501) (psQ Q R b) :=
  SzL.sub (k := k + 500) (hQ.scale (leadL_sz hb)) ((SzL.one (leadL_sz hR).neg).le (Nat.le_add_right k 500)).raise
theorem psQ_len (Q R b : List Int) : (psQ Q R b).length ≤ max Q.length (R.length - b.length + 1) := by
  have h1 := subL_len_le (scaleL Q (leadL b)) (raiseL [-(leadL R)] (R.length - b.length))
  have h2 := scaleL_len_le Q (leadL b)
  have h3 := raiseL_len_le [-(leadL R)] (R.length - b.length)
  simp only [List.length_cons, List.length_nil] at h3
  unfold psQ; (first | lia | omega)
structure PsI (a b : List Int) (n : Nat) (R Q : List Int) (left : Int) : Prop where
  sR : SzL (500 + (2 - n) * 501) R
  sQ : SzL (500 + (2 - n) * 501) Q
  lR : R.length ≤ a.length
  lQ : Q.length ≤ 2
  at_ : (n = 2 ∧ R = a ∧ Q = [] ∧ left = 2) ∨ (n = 1 ∧ R = psR a b ∧ Q = psQ [] a b ∧ left = 1) ∨ (n = 0 ∧ (psR a b).length = b.length ∧ R = psR (psR a b) b ∧ Q = psQ (psQ [] a b) (psR a b) b ∧ left = 0)
theorem PsI.next {a b R Q : List Int} {n : Nat} {left : Int} (h : a.length = b.length + 1) (hb : b.length ≠ 0) (sb : SzL 500 b) (I : PsI a b n R Q left) (hge : b.length ≤ R.length) : ∃ m, n = m + 1 ∧ PsI a b m (psR R b) (psQ Q R b) (left - 1) := by
  have hq := psQ_len Q R b
  have lr := I.lR
  have lq := I.lQ
  rcases I.at_ with ⟨rfl, rfl, rfl, rfl⟩ | ⟨rfl, rfl, rfl, rfl⟩ | ⟨rfl, e, rfl, _, _⟩
  · have hr := psR_len h hb
    exact ⟨1, rfl, psR_sz I.sR sb, psQ_sz I.sQ I.sR sb, by (first | lia | omega), by (first | lia | omega), .inr (.inl ⟨rfl, rfl, rfl, rfl⟩)⟩
  · have hr := psR_len h hb
    have e : (psR a b).length = b.length := by (first | lia | omega)
    have hr2 := psR2_len e hb
    exact ⟨0, rfl, psR_sz I.sR sb, psQ_sz I.sQ I.sR sb, by (first | lia | omega), by (first | lia | omega), .inr (.inr ⟨rfl, e, rfl, rfl, rfl⟩)⟩
  · have := psR2_len e hb
    (first | lia | omega)
theorem PsI.done {a b R Q : List Int} {n : Nat} {left : Int} (h : a.length = b.length + 1) (hb : b.length ≠ 0) (hl : leadL b ≠ 0) (I : PsI a b n R Q left) (hlt : R.length < b.length) :
    0 ≤ left ∧ left ≤ 1 ∧ scaleL R (leadL b ^ left.toNat) = premL a b ∧ scaleL Q (leadL b ^ left.toNat) = pquo a b := by
  rcases I.at_ with ⟨rfl, rfl, rfl, rfl⟩ | ⟨rfl, rfl, rfl, rfl⟩ | ⟨rfl, e, rfl, rfl, rfl⟩
  · (first | lia | omega)
  · exact ⟨by decide, by decide, prem_one h hb hl hlt, by rw [pquo, if_neg (by (first | lia | omega))]; rfl⟩
  · exact ⟨by decide, by decide, prem_two h hb hl e, by rw [pquo, if_pos (by (first | lia | omega))]; rfl⟩
theorem fit_pow {f : Int} (hf : Fit f) {left : Int} (h0 : 0 ≤ left) (h1 : left ≤ 1) : Fit (f ^ left.toNat) := by
  have : left.toNat = 0 ∨ left.toNat = 1 := by (first | lia | omega)
  rcases this with e | e <;> rw [e]
  · rw [Int.pow_zero]; exact Fit.one
  · rw [Int.pow_succ, Int.pow_zero, Int.one_mul]; exact hf
noncomputable def HasPseudo (C : Ctx) : Prop := C.dfn (Str.ofString "pseudo") ∧ ∀ a b : List Int, a.length = b.length + 1 → b.length ≠ 0 → a.length < 900 → leadL b ≠ 0 → SzL 500 a → SzL 500 b → C.call (Str.ofString "pseudo") [zl a, zl b] (.tuple [zl (pquo a b), zl (premL a b), .int 2])
theorem pseudo_gives (C : Ctx) (hc : HasCheck C) (hld : HasZlead C) (hs : HasZsub C) (hk : HasZscale C) (hr : HasZraise C) (a b : List Int) (h : a.length = b.length + 1) (hb : b.length ≠ 0) (la : a.length < 900) (hl : leadL b ≠ 0) (sa : SzL 500 a) (sb : SzL 500 b) :
    Gives C 45 [zl a, zl b] (.tuple [zl (pquo a b), zl (premL a b), .int 2]) := by
  refine ⟨_, rfl, rfl, ?_⟩
  simp only [List.map_cons, List.map_nil, List.zip_cons_cons, List.zip_nil_right, reduceCtorEq]
  refine st_expr ?_
  simp only [String.reduceBEq, es_call, List.flatMap_cons, es_name, List.flatMap_nil, List.cons_append, List.nil_append, frz_cons, f1_sh, frz_end, Nat.reduceAdd, wpN_e, e_call, kdOf_at, lk_miss, lk_hit, call_any, bn_check_bottom, call_n, wpArgs, List.all_cons, ns_name, List.all_nil, Bool.and_true, wpArgs1, isVar_at, iv_l, e_var, shName_at, get_miss, get_hit, sh_s, true_and]
  refine ⟨hc.1, _, hc.2 b hb, ?_⟩
  refine st_assign ?_
  simp only [wpVal, String.reduceBEq, es_call, List.flatMap_cons, es_const, es_bin, es_len, List.nil_append, List.flatMap_nil, frz_cons, f1_sh, frz_end, Nat.reduceAdd, set_miss, set_nil, wpN_e, e_call, kdOf_at, lk_miss, lk_hit, call_any, bi_max, call_b, wpBi, wpArgs, List.all_cons, ns_const, ns_bin, List.all_nil, Bool.and_true, wpArgs1, e_bin, wpBinE, bin_add, e_const, c_int, bin_sub, bi_len, ns_name, isVar_at, iv_l, r_var, rdName_at, get_miss, get_hit, rd_s, asSeq_l, List.length_map, true_and, binSub_i, binAdd_i, asInt_i]
  have e2 : (if (a.length : Int) - (b.length : Int) + 1 > 0 then (a.length : Int) - (b.length : Int) + 1 else 0) = 2 := by
    rw [if_pos (by (first | lia | omega))]; (first | lia | omega)
  rw [e2]
  refine st_par ?_
  simp only [wpVals, List.all_cons, ns_call, ns_list, ns_name, List.all_nil, Bool.and_true, wpVals1, wpVal, List.flatMap_cons, String.reduceBEq, es_call, es_name, List.flatMap_nil, List.cons_append, List.nil_append, es_list, frz_cons, f1_sh, frz_end, List.length_nil, Nat.reduceLeDiff, wpArgs, wpArgs1, setAll, canSt_at, kdOf_at, lk_miss, lk_hit, cs_l, ↓reduceIte, set_miss, set_nil, Option.some.injEq, Nat.reduceAdd, exists_eq_left', wpN_e, e_call, call_any, bn_zlead, call_n, isVar_at, iv_l, e_var, shName_at, get_miss, get_hit, sh_s, true_and, bi_list, call_b, wpBi, asList_l]
  refine ⟨hld.1, _, hld.2 b, ?_⟩
  refine st_while (fun n σ => ∃ R Q left sl, σ.get (Str.ofString "b") = some (.sh (zl b)) ∧ σ.get (Str.ofString "rest") = some (.sh (zl R)) ∧ σ.get (Str.ofString "found") = some sl ∧ sl.froze = .sh (zl Q) ∧ σ.get (Str.ofString "left") = some (.sh (.int left)) ∧ σ.get (Str.ofString "first") = some (.sh (.int (leadL b))) ∧ σ.get (Str.ofString "many") = some (.sh (.int 2)) ∧ PsI a b n R Q left) 2
    ⟨a, [], 2, _, rfl, rfl, rfl, rfl, rfl, rfl, rfl, sa, SzL.nil, Nat.le_refl _, by decide, .inl ⟨rfl, rfl, rfl, rfl⟩⟩ fun n σ hI K hK => ?_
  obtain ⟨R, Q, left, sl, g1, g2, g3, g4, g5, g6, g7, I⟩ := hI
  have kn : 2 - n ≤ 2 := by (first | lia | omega)
  have kb : 500 + (2 - n) * 501 ≤ 1502 := by
    have := Nat.mul_le_mul_right 501 kn
    (first | lia | omega)
  have fR := I.sR.fit (by (first | lia | omega))
  have fQ := I.sQ.fit (by (first | lia | omega))
  have lr := I.lR
  have lq := I.lQ
  simp only [Nat.reduceAdd, wpN_t, t_cmp, cmpOk, cmp_ge, decide_eq_true_eq, decide_eq_false_iff_not, rdE_call, wpN_e, e_call, kdOf_at, String.reduceBEq, lk_miss, lk_hit, call_any, bi_len, call_b, wpBi, ns_name, asInt_i, isVar_at, iv_l, r_var, rdName_at, g1, rd_s, asSeq_l, List.length_map, true_and, g2]
  refine ⟨fun hge => ?_, fun hlt => ?_⟩
  · have hge : b.length ≤ R.length := by (first | lia | omega)
    obtain ⟨m, rfl, I'⟩ := I.next h hb sb hge
    have hR0 : R.length ≠ 0 := by (first | lia | omega)
    have hRne : R ≠ [] := by intro e; rw [e] at hR0; exact hR0 rfl
    have p1 : pyAt (R.map PyData.int) (-1) = some (.int (leadL R)) := pyAt_last hRne
    refine st_par ?_
    simp only [wpVals, List.all_cons, ns_sub, ns_bin, List.all_nil, Bool.and_true, wpVals1, wpVal, List.flatMap_cons, es_subn, es_bin, es_len, List.nil_append, List.flatMap_nil, frz_nil, setAll, canSt_at, kdOf_at, String.reduceBEq, lk_miss, lk_hit, cs_l, ↓reduceIte, Option.some.injEq, Nat.reduceAdd, exists_eq_left', wpN_e, e_bin, wpBinE, bin_sub, e_call, call_any, bi_len, call_b, wpBi, ns_name, isVar_at, iv_l, r_var, rdName_at, g1, rd_s, asSeq_l, List.length_map, true_and, binSub_i, g2, e_sub, wpSub, itemD, e_neg, asInt_i, e_const, c_int, p1]
    have ep : (R.length : Int) - (b.length : Int) = ((R.length - b.length : Nat) : Int) := by (first | lia | omega)
    rw [ep]
    refine st_assign ?_
    simp only [wpVal, String.reduceBEq, es_call, List.flatMap_cons, es_name, List.flatMap_nil, List.cons_append, List.nil_append, es_list, es_un, Nat.reduceAdd, wpN_e, e_call, kdOf_at, lk_miss, lk_hit, call_any, bn_zsub, call_n, wpArgs, List.all_cons, ns_call, List.all_nil, Bool.and_true, wpArgs1, bn_zraise, ns_list, ns_name, isVar_at, iv_l, e_var, shName_at, gf_miss, gf_hit, gs_hit, Option.map_some, froze_sh, sh_s, e_list, List.length_cons, List.length_nil, Nat.reduceLeDiff, ns_un, e_neg, frz_nil, gs_miss, asInt_i, true_and, bn_zscale, g6, g3, g4]
    refine ⟨hs.1, hk.1, _, hk.2 Q _ fQ (leadL_sz sb).fit, hr.1, _, hr.2 [-(leadL R)] _ (by (first | lia | omega)) (by simp), _, hs.2 _ _ ?_ ?_, ?_⟩
    · have := scaleL_len_le Q (leadL b); (first | lia | omega)
    · have := raiseL_len_le [-(leadL R)] (R.length - b.length)
      simp only [List.length_cons, List.length_nil] at this; (first | lia | omega)
    refine st_assign ?_
    simp only [wpVal, String.reduceBEq, es_call, List.flatMap_cons, es_name, List.flatMap_nil, List.cons_append, List.nil_append, Nat.reduceAdd, wpN_e, e_call, kdOf_at, lk_miss, lk_hit, call_any, bn_zsub, call_n, wpArgs, List.all_cons, ns_call, List.all_nil, Bool.and_true, wpArgs1, bn_zraise, ns_name, isVar_at, iv_l, e_var, shName_at, gf_miss, gf_hit, gs_miss, gs_hit, Option.map_some, froze_sh, sh_s, bn_zscale, frz_nil, g1, true_and, g6, g2]
    refine ⟨hs.1, hk.1, _, hk.2 R _ fR (leadL_sz sb).fit, hr.1, hk.1, _, hk.2 b _ sb.fit (fR _), _, hr.2 _ _ (by (first | lia | omega)) ?_, _, hs.2 _ _ ?_ ?_, ?_⟩
    · have := scaleL_len_le b (leadL R); (first | lia | omega)
    · have := scaleL_len_le R (leadL b); (first | lia | omega)
    · have := scaleL_len_le b (leadL R)
      have := raiseL_len_le (scaleL b (leadL R)) (R.length - b.length)
      (first | lia | omega)
    refine st_aug ?_
    simp only [Nat.reduceAdd, wpN_e, e_const, c_int, asInt_i, shName_at, String.reduceBEq, gs_miss, gf_miss, frz_nil, g5, sh_s]
    refine st_nil (hK m _ (Nat.lt_succ_self m) ⟨psR R b, psQ Q R b, left - 1, .sh (zl (psQ Q R b)), ?_, ?_, ?_, rfl, ?_, ?_, ?_, I'⟩)
    all_goals simp only [String.reduceBEq, gs_miss, gf_miss, gf_hit, frz_nil, g1, Option.map_some, froze_sh, gs_hit, Option.some.injEq, Slot.sh.injEq, g6, g7]
    all_goals rfl
  · have hlt : R.length < b.length := by (first | lia | omega)
    obtain ⟨h0, h1, e1, e2⟩ := I.done h hb hl hlt
    refine st_assign ?_
    simp only [wpVal, es_bin, es_name, List.cons_append, List.nil_append, Nat.reduceAdd, wpN_e, e_bin, wpBinE, bin_pow, isVar_at, kdOf_at, String.reduceBEq, lk_miss, lk_hit, iv_l, e_var, shName_at, gf_miss, gf_hit, g5, Option.map_some, froze_sh, sh_s, asInt_i, g6]
    refine ⟨h0, by (first | lia | omega), (leadL_sz sb).fit, ?_⟩
    refine st_ret ?_
    have fp := fit_pow (leadL_sz sb).fit h0 h1
    simp only [es_tup, List.flatMap_cons, String.reduceBEq, es_call, es_name, List.flatMap_nil, List.cons_append, List.nil_append, wpN_e, e_tup, List.length_cons, List.length_nil, Nat.reduceAdd, Nat.reduceLeDiff, wpArgs, List.all_cons, ns_call, ns_name, List.all_nil, Bool.and_true, wpArgs1, isVar_at, kdOf_at, lk_miss, lk_hit, iv_l, e_var, shName_at, gf_miss, gf_hit, gs_miss, frz_nil, g7, Option.map_some, froze_sh, sh_s, e_call, call_any, bn_zscale, call_n, gs_hit, g2, true_and, g3, g4]
    refine ⟨hk.1, _, hk.2 Q _ fQ fp, hk.1, _, hk.2 R _ fR fp, ?_⟩
    rw [e1, e2]
end Mine
end
section
open PySem PySem.W PyProof.Rows PySem.Spec PySem.Calls
namespace Mine
noncomputable def HasRest (C : Ctx) : Prop := C.dfn (Str.ofString "zpseudo_rest") ∧ ∀ a b : List Int, a.length = b.length + 1 → b.length ≠ 0 → a.length < 900 → leadL b ≠ 0 → SzL 500 a → SzL 500 b → C.call (Str.ofString "zpseudo_rest") [zl a, zl b] (zl (premL a b))
theorem rest_gives (C : Ctx) (hp : HasPseudo C) (a b : List Int) (h : a.length = b.length + 1) (hb : b.length ≠ 0) (la : a.length < 900) (hl : leadL b ≠ 0) (sa : SzL 500 a) (sb : SzL 500 b) : Gives C 46 [zl a, zl b] (zl (premL a b)) := by
  refine ⟨_, rfl, rfl, ?_⟩
  simp only [List.map_cons, List.map_nil, List.zip_cons_cons, List.zip_nil_right, reduceCtorEq]
  refine st_ret ?_
  simp only [es_subc, String.reduceBEq, es_call, List.flatMap_cons, es_name, List.flatMap_nil, List.cons_append, List.nil_append, frz_cons, f1_sh, frz_end, wpN_e, e_sub, wpSub, itemD, e_const, c_int, asInt_i, rdE_call, e_call, kdOf_at, lk_miss, lk_hit, call_any, bn_pseudo, call_n, wpArgs, List.all_cons, ns_name, List.all_nil, Bool.and_true, wpArgs1, isVar_at, iv_l, e_var, shName_at, get_miss, get_hit, sh_s, true_and]
  refine ⟨hp.1, _, hp.2 a b h hb la hl sa sb, ?_⟩
  simp only [asSeq_t, pyAt_1, Option.some.injEq, exists_eq_left']
noncomputable def HasNext (C : Ctx) : Prop := C.dfn (Str.ofString "next_height") ∧ ∀ x y : Int, Fit x → Fit y → C.call (Str.ofString "next_height") [.int x, .int 1, .int y] (.int x)
theorem next_gives (C : Ctx) (x y : Int) (hx : Fit x) (hy : Fit y) : Gives C 48 [.int x, .int 1, .int y] (.int x) := by
  refine ⟨_, rfl, rfl, ?_⟩
  simp only [List.map_cons, List.map_nil, List.zip_cons_cons, List.zip_nil_right, reduceCtorEq]
  refine st_if ?_
  simp only [es_cmp, frz_cons, f1_sh, frz_end, Nat.reduceAdd, wpN_t, t_cmp, cmpOk, cmp_eq, rdE_const, wpN_e, e_const, c_int, isVar_at, kdOf_at, String.reduceBEq, lk_miss, lk_hit, iv_l, r_var, rdName_at, get_miss, get_hit, rd_s, eqD_i, decide_eq_true_eq, decide_eq_false_iff_not, true_and]
  refine ⟨fun h => absurd h (by decide), fun _ => st_nil ?_⟩
  simp only
  refine st_ret ?_
  simp only [es_bin, es_name, List.cons_append, List.nil_append, es_const, frz_cons, f1_sh, frz_end, wpN_e, e_bin, wpBinE, bin_div, bin_pow, asInt_i, bin_sub, e_const, c_int, isVar_at, kdOf_at, String.reduceBEq, lk_miss, lk_hit, iv_l, e_var, shName_at, get_miss, get_hit, sh_s, binSub_i]
  have e1 : x ^ Int.toNat 1 = x := by
    show x ^ 1 = x
    rw [Int.pow_succ, Int.pow_zero, Int.one_mul]
  have e2 : y ^ Int.toNat (1 - 1) = 1 := by simp
  rw [e1, e2]
  exact ⟨by decide, by decide, hx, by decide, by decide, hy, by decide, Fit.one, by simp⟩
noncomputable def HasSign (C : Ctx) : Prop := C.dfn (Str.ofString "sign_of") ∧ ∀ x : Int, C.call (Str.ofString "sign_of") [.int x] (.int (b2i (decide (0 < x)) - b2i (decide (x < 0))))
theorem sign_gives (C : Ctx) (x : Int) : Gives C 52 [.int x] (.int (b2i (decide (0 < x)) - b2i (decide (x < 0)))) := by
  refine ⟨_, rfl, rfl, ?_⟩
  simp only [List.map_cons, List.map_nil, List.zip_cons_cons, List.zip_nil_right, reduceCtorEq]
  refine st_ret ?_
  simp only [es_bin, es_cmp, List.nil_append, frz_cons, f1_sh, frz_end, wpN_e, e_bin, wpBinE, bin_sub, e_cmp, cmpOk, cmp_lt, rdE_const, e_const, c_int, asInt_i, isVar_at, kdOf_at, lk_hit, iv_l, r_var, rdName_at, get_hit, rd_s, true_and, binSub_b, cmp_gt, and_self]
theorem eqv_zl_nil (xs : List Int) : PyData.eqv (.list (xs.map PyData.int)) (.list []) = decide (xs = []) := eqv_zl xs []
theorem shaped_nil : SeqAt.shaped (.list []) = true := rfl
/-- the sign at an end, of a polynomial whose lead is above 0 -/
noncomputable def endS (xs : List Int) (minus : Bool) : Int := if minus && decide (((xs.length : Int) - 1).fmod 2 = 1) then -1 else 1
noncomputable def HasEnd (C : Ctx) : Prop := C.dfn (Str.ofString "end_sign") ∧ ∀ xs : List Int, 0 < leadL xs → C.call (Str.ofString "end_sign") [zl xs, .str (Str.ofString "-")] (.int (endS xs true)) ∧ C.call (Str.ofString "end_sign") [zl xs, .str (Str.ofString "+")] (.int (endS xs false))
theorem lead_ne {xs : List Int} (h : 0 < leadL xs) : xs ≠ [] := by
  intro e; subst e; exact absurd h (by decide)
theorem sg_pos {x : Int} (h : 0 < x) : b2i (decide (0 < x)) - b2i (decide (x < 0)) = 1 := by
  have h2 : ¬ x < 0 := by (first | lia | omega)
  simp [b2i, h, h2]
theorem end_gives1 (C : Ctx) (hs : HasSign C) (hd : HasZdeg C) (hl : HasZlead C) (xs : List Int) (h : 0 < leadL xs) : Gives C 54 [zl xs, .str (Str.ofString "-")] (.int (endS xs true)) := by
  refine ⟨_, rfl, rfl, ?_⟩
  simp only [List.map_cons, List.map_nil, List.zip_cons_cons, List.zip_nil_right, reduceCtorEq]
  refine st_if ?_
  simp only [es_cmp, frz_cons, f1_sh, frz_end, Nat.reduceAdd, wpN_t, t_cmp, cmpOk, cmp_eq, rdE_list, wpN_e, e_list, List.length_nil, Nat.reduceLeDiff, wpArgs, List.all_nil, wpArgs1, true_and, isVar_at, kdOf_at, lk_hit, iv_l, r_var, rdName_at, get_hit, rd_s, eqD_l, shaped_zl, shaped_nil, eqv_zl_nil, decide_eq_true_eq, decide_eq_false_iff_not]
  refine ⟨fun e => absurd e (lead_ne h), fun _ => st_nil ?_⟩
  simp only
  refine st_assign ?_
  simp only [wpVal, String.reduceBEq, es_call, List.flatMap_cons, es_name, List.flatMap_nil, List.cons_append, List.nil_append, frz_cons, f1_sh, frz_end, Nat.reduceAdd, set_miss, set_nil, wpN_e, e_call, kdOf_at, lk_miss, lk_hit, call_any, bn_sign_of, call_n, wpArgs, List.all_cons, ns_call, List.all_nil, Bool.and_true, wpArgs1, bn_zlead, ns_name, isVar_at, iv_l, e_var, shName_at, get_hit, sh_s, true_and]
  refine ⟨hs.1, hl.1, _, hl.2 xs, _, hs.2 _, ?_⟩
  rw [sg_pos h]
  refine st_ret ?_
  simp only [es_ife, frz_cons, f1_sh, frz_end, wpN_e, e_ife, e_neg, isVar_at, kdOf_at, String.reduceBEq, lk_miss, lk_hit, iv_l, e_var, shName_at, get_miss, get_hit, sh_s, asInt_i, wpN_t, t_and, t_cmp, cmpOk, cmp_eq, rdE_const, e_const, c_int, rdE_bin, e_bin, wpBinE, bin_mod, eqD_i, decide_eq_true_eq, decide_eq_false_iff_not, e_call, call_any, bn_zdegree, call_n, wpArgs, List.all_cons, ns_name, List.all_nil, Bool.and_true, wpArgs1, true_and, Bool.false_eq_true, false_implies, forall_const, c_str, r_var, rdName_at, rd_s, eqD_s]
  have sh : SeqAt.shaped (PyData.str (Str.ofString "-")) = true := by decide +kernel
  have ev : PyData.eqv (.str (Str.ofString "-")) (.str (Str.ofString "-")) = true := by decide +kernel
  refine ⟨sh, sh, fun _ => ⟨hd.1, _, hd.2 xs, by decide, fun h2 => ?_, fun h2 => ?_⟩, fun e => absurd e (by rw [ev]; decide)⟩
  · simp [endS, h2]
  · simp [endS, h2]
theorem end_gives2 (C : Ctx) (hs : HasSign C) (hd : HasZdeg C) (hl : HasZlead C) (xs : List Int) (h : 0 < leadL xs) : Gives C 54 [zl xs, .str (Str.ofString "+")] (.int (endS xs false)) := by
  refine ⟨_, rfl, rfl, ?_⟩
  simp only [List.map_cons, List.map_nil, List.zip_cons_cons, List.zip_nil_right, reduceCtorEq]
  refine st_if ?_
  simp only [es_cmp, frz_cons, f1_sh, frz_end, Nat.reduceAdd, wpN_t, t_cmp, cmpOk, cmp_eq, rdE_list, wpN_e, e_list, List.length_nil, Nat.reduceLeDiff, wpArgs, List.all_nil, wpArgs1, true_and, isVar_at, kdOf_at, lk_hit, iv_l, r_var, rdName_at, get_hit, rd_s, eqD_l, shaped_zl, shaped_nil, eqv_zl_nil, decide_eq_true_eq, decide_eq_false_iff_not]
  refine ⟨fun e => absurd e (lead_ne h), fun _ => st_nil ?_⟩
  simp only
  refine st_assign ?_
  simp only [wpVal, String.reduceBEq, es_call, List.flatMap_cons, es_name, List.flatMap_nil, List.cons_append, List.nil_append, frz_cons, f1_sh, frz_end, Nat.reduceAdd, set_miss, set_nil, wpN_e, e_call, kdOf_at, lk_miss, lk_hit, call_any, bn_sign_of, call_n, wpArgs, List.all_cons, ns_call, List.all_nil, Bool.and_true, wpArgs1, bn_zlead, ns_name, isVar_at, iv_l, e_var, shName_at, get_hit, sh_s, true_and]
  refine ⟨hs.1, hl.1, _, hl.2 xs, _, hs.2 _, ?_⟩
  rw [sg_pos h]
  refine st_ret ?_
  simp only [es_ife, frz_cons, f1_sh, frz_end, wpN_e, e_ife, e_neg, isVar_at, kdOf_at, String.reduceBEq, lk_miss, lk_hit, iv_l, e_var, shName_at, get_miss, get_hit, sh_s, asInt_i, wpN_t, t_and, t_cmp, cmpOk, cmp_eq, rdE_const, e_const, c_int, rdE_bin, e_bin, wpBinE, bin_mod, eqD_i, decide_eq_true_eq, decide_eq_false_iff_not, e_call, call_any, bn_zdegree, call_n, wpArgs, List.all_cons, ns_name, List.all_nil, Bool.and_true, wpArgs1, true_and, Bool.false_eq_true, false_implies, forall_const, c_str, r_var, rdName_at, rd_s, eqD_s]
  have sh1 : SeqAt.shaped (PyData.str (Str.ofString "+")) = true := by decide +kernel
  have sh2 : SeqAt.shaped (PyData.str (Str.ofString "-")) = true := by decide +kernel
  have ev : PyData.eqv (.str (Str.ofString "+")) (.str (Str.ofString "-")) = false := by decide +kernel
  refine ⟨sh1, sh2, fun e => absurd e (by rw [ev]; decide), fun _ => ?_⟩
  simp [endS]
/-- «sign_at» with a word for x, where the lead is above 0 -/
noncomputable def HasSignAt (C : Ctx) : Prop := C.dfn (Str.ofString "sign_at") ∧ ∀ xs : List Int, 0 < leadL xs → C.call (Str.ofString "sign_at") [zl xs, .str (Str.ofString "-")] (.int (endS xs true)) ∧ C.call (Str.ofString "sign_at") [zl xs, .str (Str.ofString "+")] (.int (endS xs false))
theorem signat_gives1 (C : Ctx) (he : HasEnd C) (xs : List Int) (h : 0 < leadL xs) : Gives C 55 [zl xs, .str (Str.ofString "-")] (.int (endS xs true)) := by
  refine ⟨_, rfl, rfl, ?_⟩
  simp only [List.map_cons, List.map_nil, List.zip_cons_cons, List.zip_nil_right, reduceCtorEq]
  refine st_ret ?_
  simp only [es_ife, frz_cons, f1_sh, frz_end, wpN_e, e_ife, e_call, kdOf_at, String.reduceBEq, lk_miss, lk_hit, call_any, bn_end_sign, call_n, wpArgs, List.all_cons, ns_name, List.all_nil, Bool.and_true, wpArgs1, isVar_at, iv_l, e_var, shName_at, get_miss, get_hit, sh_s, true_and, wpN_t, t_call, bi_isinstance, call_b, wpBi, asBool_b, forall_const, reduceCtorEq, false_implies, and_true, asStr_s]
  exact ⟨he.1, _, (he.2 xs h).1, rfl⟩
theorem signat_gives2 (C : Ctx) (he : HasEnd C) (xs : List Int) (h : 0 < leadL xs) : Gives C 55 [zl xs, .str (Str.ofString "+")] (.int (endS xs false)) := by
  refine ⟨_, rfl, rfl, ?_⟩
  simp only [List.map_cons, List.map_nil, List.zip_cons_cons, List.zip_nil_right, reduceCtorEq]
  refine st_ret ?_
  simp only [es_ife, frz_cons, f1_sh, frz_end, wpN_e, e_ife, e_call, kdOf_at, String.reduceBEq, lk_miss, lk_hit, call_any, bn_end_sign, call_n, wpArgs, List.all_cons, ns_name, List.all_nil, Bool.and_true, wpArgs1, isVar_at, iv_l, e_var, shName_at, get_miss, get_hit, sh_s, true_and, wpN_t, t_call, bi_isinstance, call_b, wpBi, asBool_b, forall_const, reduceCtorEq, false_implies, and_true, asStr_s]
  exact ⟨he.1, _, (he.2 xs h).2, rfl⟩
noncomputable def lessL (xs : List Int) : List Int := if 1 < gcdAll xs then divL xs (gcdAll xs) else xs
noncomputable def HasLess (C : Ctx) : Prop := C.dfn (Str.ofString "lessened") ∧ ∀ xs : List Int, Fit (gcdAll xs) → C.call (Str.ofString "lessened") [zl xs] (zl (lessL xs))
theorem less_gives (C : Ctx) (hc : HasZcontent C) (xs : List Int) (hf : Fit (gcdAll xs)) : Gives C 57 [zl xs] (zl (lessL xs)) := by
  refine ⟨_, rfl, rfl, ?_⟩
  simp only [List.map_cons, List.map_nil, List.zip_cons_cons, List.zip_nil_right, reduceCtorEq]
  refine st_assign ?_
  simp only [wpVal, String.reduceBEq, es_call, List.flatMap_cons, es_name, List.flatMap_nil, List.cons_append, List.nil_append, frz_cons, f1_sh, frz_end, Nat.reduceAdd, set_miss, set_nil, wpN_e, e_call, kdOf_at, lk_miss, lk_hit, call_any, bn_zcontent, call_n, wpArgs, List.all_cons, ns_name, List.all_nil, Bool.and_true, wpArgs1, isVar_at, iv_l, e_var, shName_at, get_hit, sh_s, true_and]
  refine ⟨hc.1, _, hc.2 xs, ?_⟩
  refine st_ret ?_
  simp only [es_ife, frz_cons, f1_sh, frz_end, wpN_e, e_ife, e_comp, wpComp, dot0, String.reduceBEq, get_miss, get_nil, plainIter, isTupT, isEnumE, wpIter, bindT, wpTests, set_miss, set_nil, e_bin, wpBinE, bin_div, isVar_at, compKd, kdOf_at, List.map_cons, nk_l, lk_miss, List.lookup_nil, Bool.false_and, Bool.false_eq_true, ↓reduceIte, beq_self_eq_true, lk_hit, Bool.and_true, List.map_nil, iv_c, e_var, shName_at, get_hit, sh_s, asInt_i, iv_l, asSeq_l, true_and, wpN_t, t_cmp, cmpOk, cmp_gt, decide_eq_true_eq, decide_eq_false_iff_not, rdE_const, e_const, c_int, r_var, rdName_at, rd_s]
  refine ⟨fun h => ⟨by decide +kernel, fun _ => true, fun d => .int ((unq d).fdiv (gcdAll xs)), fun d hd => ?_, ?_⟩, fun h => ?_⟩
  · obtain ⟨x, hx, rfl⟩ := List.mem_map.mp hd
    simp only [asInt_i, forall_const, true_and]
    exact ⟨by (first | lia | omega), hf, rfl⟩
  · rw [filter_T, lessL, if_pos h]; simp only [zl, divL, List.map_map]; rfl
  · rw [lessL, if_neg h]
noncomputable def nextL (a b : List Int) : List Int := lessL (negL (premL a b))
noncomputable def HasNextRow (C : Ctx) : Prop := C.dfn (Str.ofString "next_of_row") ∧ ∀ a b : List Int, a.length = b.length + 1 → b.length ≠ 0 → a.length < 900 → leadL b ≠ 0 → SzL 500 a → SzL 500 b → Fit (gcdAll (negL (premL a b))) → C.call (Str.ofString "next_of_row") [zl a, zl b] (zl (nextL a b))
theorem nextrow_gives (C : Ctx) (hp : HasPseudo C) (hn : HasZneg C) (hle : HasLess C) (a b : List Int) (h : a.length = b.length + 1) (hb : b.length ≠ 0) (la : a.length < 900) (hl : leadL b ≠ 0) (sa : SzL 500 a) (sb : SzL 500 b) (hf : Fit (gcdAll (negL (premL a b)))) : Gives C 58 [zl a, zl b] (zl (nextL a b)) := by
  refine ⟨_, rfl, rfl, ?_⟩
  simp only [List.map_cons, List.map_nil, List.zip_cons_cons, List.zip_nil_right, reduceCtorEq]
  refine st_call ?_
  simp only [String.reduceBEq, es_call, List.flatMap_cons, es_name, List.flatMap_nil, List.cons_append, List.nil_append, frz_cons, f1_sh, frz_end, Nat.reduceAdd, wpN_e, e_call, kdOf_at, lk_miss, lk_hit, call_any, bn_pseudo, call_n, wpArgs, List.all_cons, ns_name, List.all_nil, Bool.and_true, wpArgs1, isVar_at, iv_l, e_var, shName_at, get_miss, get_hit, sh_s, true_and]
  refine ⟨hp.1, _, hp.2 a b h hb la hl sa sb, ?_⟩
  simp only [asTup_t, List.map_cons, List.map_nil, setAll, canSt_at, kdOf_at, String.reduceBEq, lk_miss, lk_hit, cs_l, ↓reduceIte, set_miss, set_nil, Option.some.injEq, exists_eq_left']
  refine st_if ?_
  simp only [es_bool, frz_cons, f1_sh, frz_end, Nat.reduceAdd, wpN_t, t_and, t_cmp, cmpOk, cmp_lt, decide_eq_true_eq, decide_eq_false_iff_not, rdE_const, wpN_e, e_const, c_int, asInt_i, rdE_call, e_call, kdOf_at, String.reduceBEq, lk_miss, lk_hit, call_any, bn_zlead, call_n, wpArgs, List.all_cons, ns_name, List.all_nil, Bool.and_true, wpArgs1, isVar_at, iv_l, e_var, shName_at, get_miss, get_hit, sh_s, true_and, Bool.false_eq_true, false_implies, forall_const, cmp_eq, rdE_bin, e_bin, wpBinE, bin_mod, eqD_i]
  refine ⟨by decide, fun h => absurd h (by decide), fun _ => st_nil ?_⟩
  simp only
  refine st_ret ?_
  simp only [String.reduceBEq, es_call, List.flatMap_cons, es_name, List.flatMap_nil, List.cons_append, List.nil_append, frz_cons, f1_sh, frz_end, wpN_e, e_call, kdOf_at, lk_miss, lk_hit, call_any, bn_lessened, call_n, wpArgs, List.all_cons, ns_call, List.all_nil, Bool.and_true, wpArgs1, bn_zneg, ns_name, isVar_at, iv_l, e_var, shName_at, get_miss, get_hit, sh_s, true_and]
  exact ⟨hle.1, hn.1, _, hn.2 _, _, hle.2 _ hf, rfl⟩
end Mine
end
section
open PySem PySem.W PyProof.Rows PySem.Spec PySem.Calls
namespace Mine
/-- the row of Sturm goes on so from a, b -/
inductive StCh : List Int → List Int → List (List Int) → Prop
  | stop (a : List Int) : StCh a [] []
  | step {a b : List Int} {r : List (List Int)} : a.length = b.length + 1 → b.length ≠ 0 → a.length < 900 → leadL b ≠ 0 → SzL 500 a → SzL 500 b → Fit (gcdAll (negL (premL a b))) → StCh b (nextL a b) r → StCh a b (b :: r)
noncomputable abbrev zll (rows : List (List Int)) : List PyData := rows.map zl
theorem pyAt_m1 {rows : List (List Int)} {b : List Int} : pyAt (zll (rows ++ [b])) (-1) = some (zl b) := by
  unfold pyAt
  have h1 : ((-1 : Int) + ((zll (rows ++ [b])).length : Int)).toNat = rows.length := by simp; (first | lia | omega)
  rw [if_neg (by (first | lia | omega)), if_pos (by simp; (first | lia | omega)), h1]
  simp [zll]
theorem pyAt_m2 {rows : List (List Int)} {a b : List Int} : pyAt (zll (rows ++ [a, b])) (-2) = some (zl a) := by
  unfold pyAt
  have h1 : ((-2 : Int) + ((zll (rows ++ [a, b])).length : Int)).toNat = rows.length := by simp; (first | lia | omega)
  rw [if_neg (by (first | lia | omega)), if_pos (by simp; (first | lia | omega)), h1]
  simp [zll]
theorem neg_eq (i : Int) (j : Int) (h : j = -i) : -i = j := h.symm
noncomputable def HasSturm (C : Ctx) : Prop := C.dfn (Str.ofString "sturm_row") ∧ ∀ (f : List Int) (r : List (List Int)), FitL f → f.length < 900 → StCh f (derL f) r → r.length < 900 → C.call (Str.ofString "sturm_row") [zl f] (.list (zll (f :: r)))
theorem sturm_gives (C : Ctx) (hd : HasZderive C) (hn : HasNextRow C) (f : List Int) (r : List (List Int)) (ff : FitL f) (lf : f.length < 900) (hch : StCh f (derL f) r) (hlr : r.length < 900) : Gives C 59 [zl f] (.list (zll (f :: r))) := by
  refine ⟨_, rfl, rfl, ?_⟩
  simp only [List.map_cons, List.map_nil, List.zip_cons_cons, List.zip_nil_right, reduceCtorEq]
  refine st_par ?_
  simp only [wpVals, List.all_cons, ns_list, ns_call, List.all_nil, Bool.and_true, wpVals1, wpVal, List.length_cons, List.length_nil, Nat.reduceAdd, Nat.reduceLeDiff, wpArgs, ns_name, wpArgs1, List.flatMap_cons, es_list, es_name, List.flatMap_nil, List.cons_append, List.nil_append, String.reduceBEq, es_call, frz_cons, f1_sh, frz_end, setAll, canSt_at, kdOf_at, lk_miss, lk_hit, cs_l, ↓reduceIte, set_miss, set_nil, Option.some.injEq, exists_eq_left', wpN_e, e_call, call_any, bn_zderive, call_n, isVar_at, iv_l, e_var, shName_at, get_hit, sh_s, true_and]
  refine ⟨hd.1, _, hd.2 f ff (by (first | lia | omega)), ?_⟩
  refine st_while (fun n σ => ∃ rows a b r', σ.get (Str.ofString "found") = some (.own (zll (rows ++ [a]))) ∧ σ.get (Str.ofString "later") = some (.sh (zl b)) ∧ StCh a b r' ∧ rows ++ a :: r' = f :: r ∧ n = r'.length) r.length ⟨[], f, derL f, r, rfl, rfl, hch, rfl, rfl⟩ fun n σ hI K hK => ?_
  obtain ⟨rows, a, b, r', g1, g2, hch, htot, rfl⟩ := hI
  simp only [Nat.reduceAdd, wpN_t, t_cmp, cmpOk, cmp_ne, Bool.not_eq_eq_eq_not, Bool.not_true, Bool.not_false, rdE_list, wpN_e, e_list, List.length_nil, Nat.reduceLeDiff, wpArgs, List.all_nil, wpArgs1, true_and, isVar_at, kdOf_at, String.reduceBEq, lk_miss, lk_hit, iv_l, r_var, rdName_at, g2, rd_s, eqD_l, shaped_zl, shaped_nil, eqv_zl_nil, decide_eq_false_iff_not, decide_eq_true_eq]
  refine ⟨fun hb => ?_, fun hb => ?_⟩
  · cases hch with
    | stop => exact absurd rfl hb
    | step h hb0 la hl sa sb hf hch =>
      rename_i r'
      refine st_append ?_
      simp only [es_name, String.reduceBEq, gf_miss, frz_nil, g1, Option.some.injEq, Slot.own.injEq, exists_eq', Nat.reduceAdd, exists_eq_left', wpN_e, isVar_at, kdOf_at, lk_miss, lk_hit, iv_l, e_var, shName_at, gf_hit, g2, Option.map_some, froze_sh, sh_s, true_and]
      have hlen : (zll (rows ++ [a])).length < 2 ^ 20 := by
        have := congrArg List.length htot
        simp at this
        simp; (first | lia | omega)
      refine ⟨hlen, ?_⟩
      refine st_assign ?_
      have ea : zll (rows ++ [a]) ++ [zl b] = zll (rows ++ [a, b]) := by simp [zll]
      have p1 : pyAt (zll (rows ++ [a, b])) (-1) = some (zl b) := by
        have := pyAt_m1 (rows := rows ++ [a]) (b := b)
        simpa using this
      rw [ea]
      simp only [wpVal, String.reduceBEq, es_call, List.flatMap_cons, es_subn, List.flatMap_nil, List.nil_append, frz_nil, Nat.reduceAdd, wpN_e, e_call, kdOf_at, lk_miss, lk_hit, call_any, bn_next_of_row, call_n, wpArgs, List.all_cons, ns_sub, List.all_nil, Bool.and_true, wpArgs1, e_sub, wpSub, itemD, e_neg, asInt_i, e_const, c_int, isVar_at, iv_l, r_var, rdName_at, gs_hit, rd_o, asSeq_l, p1, Option.some.injEq, exists_eq_left', pyAt_m2, true_and]
      refine ⟨hn.1, _, hn.2 a b h hb0 la hl sa sb hf, ?_⟩
      refine st_nil (hK r'.length _ (by simp) ⟨rows ++ [a], b, nextL a b, r', ?_, ?_, hch, ?_, rfl⟩)
      · simp only [String.reduceBEq, gs_miss, gs_hit, Option.some.injEq, Slot.own.injEq]
        simp
      · simp only [gs_hit]
      · rw [← htot]; simp
  · have hb : b = [] := by simpa using hb
    subst hb
    cases hch with
    | step h hb0 => exact absurd rfl hb0
    | stop =>
      refine st_ret ?_
      simp only [es_name, wpN_e, isVar_at, kdOf_at, String.reduceBEq, lk_miss, lk_hit, iv_l, e_var, shName_at, gf_hit, g1, Option.map_some, froze_own, sh_s]
      rw [htot]
      rfl
noncomputable def unl : PyData → List Int
  | .list ds => ds.map unq
  | _ => []
theorem unl_zl (xs : List Int) : unl (zl xs) = xs := by
  simp only [unl, zl, List.map_map]
  exact List.map_id'' (fun x => rfl) xs
noncomputable def changes (s : List Int) : Nat := ((List.range (s.length - 1)).filter fun i => decide (s.getD (i + 1) 0 ≠ s.getD i 0)).length
noncomputable def SA (C : Ctx) (w : String) (m : Bool) : Prop := C.dfn (Str.ofString "sign_at") ∧ ∀ xs : List Int, 0 < leadL xs → C.call (Str.ofString "sign_at") [zl xs, .str (Str.ofString w)] (.int (endS xs m))
theorem endS_ne (xs : List Int) (m : Bool) : endS xs m ≠ 0 := by
  unfold endS
  split <;> decide
noncomputable def HasChanges (C : Ctx) (w : String) (m : Bool) : Prop := C.dfn (Str.ofString "changes_at") ∧ ∀ rows : List (List Int), (∀ xs ∈ rows, 0 < leadL xs) → rows.length < 900 → C.call (Str.ofString "changes_at") [.list (zll rows), .str (Str.ofString w)] (.int (changes (rows.map fun xs => endS xs m)))
theorem changes_gives (C : Ctx) (w : String) (m : Bool) (hs : SA C w m) (rows : List (List Int)) (hp : ∀ xs ∈ rows, 0 < leadL xs) (hl : rows.length < 900) : Gives C 60 [.list (zll rows), .str (Str.ofString w)] (.int (changes (rows.map fun xs => endS xs m))) := by
  refine ⟨_, rfl, rfl, ?_⟩
  simp only [List.map_cons, List.map_nil, List.zip_cons_cons, List.zip_nil_right, reduceCtorEq]
  refine st_comp ?_
  simp only [wpComp, dot0, String.reduceBEq, get_miss, get_nil, plainIter, isTupT, isEnumE, wpIter, bindT, wpTests, set_miss, set_nil, wpN_e, e_call, compKd, kdOf_at, List.map_cons, nk_l, lk_miss, List.lookup_nil, Bool.false_and, Bool.false_eq_true, ↓reduceIte, nk_g, beq_self_eq_true, lk_hit, Bool.and_true, List.map_nil, call_any, bn_sign_at, call_n, wpArgs, List.all_cons, ns_name, List.all_nil, wpArgs1, isVar_at, iv_c, e_var, shName_at, get_hit, sh_s, iv_l, true_and, Nat.reduceAdd, asSeq_l]
  refine ⟨by decide +kernel, fun _ => true, fun d => .int (endS (unl d) m), fun d hd => ?_, ?_⟩
  · obtain ⟨xs, hx, rfl⟩ := List.mem_map.mp hd
    simp only [unl_zl, forall_const, true_and]
    exact ⟨hs.1, _, hs.2 xs (hp xs hx), rfl⟩
  have e1 : ((zll rows).filter fun _ => true).map (fun d => PyData.int (endS (unl d) m)) = (rows.map fun xs => endS xs m).map PyData.int := by
    rw [filter_T]; simp only [zll, List.map_map]
    refine List.map_congr_left fun xs _ => ?_
    simp only [Function.comp, unl_zl]
  rw [e1]
  generalize hS : (rows.map fun xs => endS xs m) = S
  have hS0 : ∀ x ∈ S, x ≠ 0 := by
    subst hS
    intro x hx
    obtain ⟨xs, _, rfl⟩ := List.mem_map.mp hx
    exact endS_ne xs m
  have lS : S.length < 900 := by subst hS; simpa using hl
  refine st_comp ?_
  simp only [wpComp, dot0, String.reduceBEq, get_miss, get_nil, plainIter, isTupT, isEnumE, wpIter, bindT, wpTests, set_miss, set_nil, wpN_t, t_cmp, cmpOk, cmp_ne, Bool.not_eq_eq_eq_not, rdE_const, wpN_e, e_const, c_int, isVar_at, compKd, kdOf_at, List.map_cons, nk_l, lk_miss, List.lookup_nil, Bool.false_and, Bool.false_eq_true, ↓reduceIte, List.map_nil, lk_hit, iv_l, r_var, rdName_at, get_hit, rd_s, true_and, e_var, shName_at, sh_s, Nat.reduceAdd, set_hit, iv_c, asSeq_l]
  refine ⟨by decide +kernel, fun d => decide (unq d ≠ 0), fun d => d, fun d hd => ?_, ?_⟩
  · obtain ⟨x, hx, rfl⟩ := List.mem_map.mp hd
    simp only [unq, eqD_i, implies_true, and_true]
    by_cases hx0 : x = 0 <;> simp [hx0]
  have e2 : ((S.map PyData.int).filter fun d => decide (unq d ≠ 0)).map (fun d => d) = S.map PyData.int := by
    rw [List.map_id'', List.filter_eq_self.mpr]
    · intro d hd
      obtain ⟨x, hx, rfl⟩ := List.mem_map.mp hd
      exact decide_eq_true (hS0 x hx)
    · intro d; rfl
  rw [e2]
  refine st_ret ?_
  simp only [es_len, frz_cons, f1_sh, frz_end, wpN_e, e_call, kdOf_at, String.reduceBEq, lk_miss, lk_hit, call_any, bi_len, call_b, wpBi, ns_comp, rdE_comp, e_comp, wpComp, dot0, get_miss, get_nil, plainIter, isTupT, isEnumE, isFn, ofS_beq, String.reduceEq, decide_false, beq_self_eq_true, Bool.and_true, wpIter, wpArgs, List.all_cons, ns_const, ns_call, List.all_nil, wpArgs1, bindT, wpTests, set_miss, set_nil, wpN_t, t_cmp, cmpOk, cmp_ne, Bool.not_eq_eq_eq_not, rdE_sub, e_sub, wpSub, itemD, e_bin, wpBinE, bin_sub, e_const, c_int, isVar_at, compKd, List.map_cons, nk_l, List.lookup_nil, Bool.false_and, Bool.false_eq_true, ↓reduceIte, List.map_nil, iv_l, e_var, shName_at, get_hit, sh_s, iv_c, r_var, rdName_at, rd_s, asSeq_l, true_and, List.length_map, ns_name, asInt_i, and_false, and_self, reduceCtorEq, false_and, or_self, or_false]
  refine ⟨by decide +kernel, by decide, by decide, by (first | lia | omega), by (first | lia | omega), fun d => decide (S.getD (unq d).toNat 0 ≠ S.getD ((unq d).toNat - 1) 0), fun d => .int 1, fun d hd => ?_, ?_⟩
  · obtain ⟨i, hi, rfl⟩ := List.mem_map.mp hd
    have hi : i < S.length - 1 := by
      have := List.mem_range.mp hi
      (first | lia | omega)
    have p1 : pyAt (S.map PyData.int) (1 + (i : Int)) = some (.int (S.getD (i + 1) 0)) := by
      rw [pyAt_map (by (first | lia | omega)) (by (first | lia | omega))]
      congr 3; (first | lia | omega)
    have p2 : pyAt (S.map PyData.int) (1 + (i : Int) - 1) = some (.int (S.getD i 0)) := by
      rw [pyAt_map (by (first | lia | omega)) (by (first | lia | omega))]
      congr 3; (first | lia | omega)
    have q1 : (unq (.int (1 + (i : Int)))).toNat = i + 1 := by simp only [unq]; (first | lia | omega)
    simp only [q1, binSub_i, asInt_i, p2, Option.some.injEq, exists_eq_left', p1, eqD_i, decide_eq_true_eq, implies_true, and_true]
    simp
  · congr 1
    rw [changes, List.filter_map, List.length_map, show ((S.length : Int) - 1).toNat = S.length - 1 by (first | lia | omega)]
    congr 2
    refine List.filter_congr fun i _ => ?_
    have q1 : (unq (.int (1 + (i : Int)))).toNat = i + 1 := by simp only [unq]; (first | lia | omega)
    simp only [Function.comp, q1, Nat.add_sub_cancel]
noncomputable def HasCount (C : Ctx) : Prop := C.dfn (Str.ofString "count_by_row") ∧ ∀ rows : List (List Int), (∀ xs ∈ rows, 0 < leadL xs) → rows.length < 900 → C.call (Str.ofString "count_by_row") [.list (zll rows), .str (Str.ofString "-"), .str (Str.ofString "+")] (.int (changes (rows.map fun xs => endS xs true) - changes (rows.map fun xs => endS xs false)))
theorem count_gives (C : Ctx) (h1 : HasChanges C "-" true) (h2 : HasChanges C "+" false) (rows : List (List Int)) (hp : ∀ xs ∈ rows, 0 < leadL xs) (hl : rows.length < 900) : Gives C 61 [.list (zll rows), .str (Str.ofString "-"), .str (Str.ofString "+")] (.int (changes (rows.map fun xs => endS xs true) - changes (rows.map fun xs => endS xs false))) := by
  refine ⟨_, rfl, rfl, ?_⟩
  simp only [List.map_cons, List.map_nil, List.zip_cons_cons, List.zip_nil_right, reduceCtorEq]
  refine st_ret ?_
  simp only [es_bin, String.reduceBEq, es_call, List.flatMap_cons, es_name, List.flatMap_nil, List.cons_append, List.nil_append, frz_cons, f1_sh, frz_end, wpN_e, e_bin, wpBinE, bin_sub, e_call, kdOf_at, lk_miss, lk_hit, call_any, bn_changes_at, call_n, wpArgs, List.all_cons, ns_name, List.all_nil, Bool.and_true, wpArgs1, isVar_at, iv_l, e_var, shName_at, get_miss, get_hit, sh_s, true_and]
  refine ⟨h1.1, _, h1.2 rows hp hl, h2.1, _, h2.2 rows hp hl, ?_⟩
  simp only [binSub_i]
end Mine
end
section
open PySem PySem.W PyProof.Rows PySem.Spec PySem.Calls
namespace Mine
/-- the row of subresultants goes on so from a, b, where each is one shorter -/
inductive SubCh : List Int → List Int → Int → Int → List (List Int) → Prop
  | stop {a b : List Int} {x y : Int} : b.length ≤ 1 → SubCh a b x y []
  | step {a b : List Int} {x y : Int} {r : List (List Int)} : a.length = b.length + 1 → 2 ≤ b.length → a.length < 900 → leadL b ≠ 0 → SzL 500 a → SzL 500 b → (premL a b).length ≠ 0 → x * y ≠ 0 → Sz 1000 x → Sz 1000 y →
      SubCh b (divL (premL a b) (x * y)) (leadL b) (leadL b) r → SubCh a b x y (divL (premL a b) (x * y) :: r)
noncomputable def HasSubr (C : Ctx) : Prop := C.dfn (Str.ofString "subresultants") ∧ ∀ (a b : List Int) (r : List (List Int)), b.length ≤ a.length → SubCh a b 1 1 r → r.length < 900 → C.call (Str.ofString "subresultants") [zl a, zl b] (.list (zll (a :: b :: r)))
theorem subr_gives (C : Ctx) (hr : HasRest C) (hd : HasZdivided C) (hl : HasZlead C) (hn : HasNext C) (a b : List Int) (r : List (List Int)) (hab : b.length ≤ a.length) (hch : SubCh a b 1 1 r) (hlr : r.length < 900) : Gives C 49 [zl a, zl b] (.list (zll (a :: b :: r))) := by
  refine ⟨_, rfl, rfl, ?_⟩
  simp only [List.map_cons, List.map_nil, List.zip_cons_cons, List.zip_nil_right, reduceCtorEq]
  refine st_if ?_
  simp only [es_cmp, frz_cons, f1_sh, frz_end, Nat.reduceAdd, wpN_t, t_cmp, cmpOk, cmp_lt, decide_eq_true_eq, decide_eq_false_iff_not, rdE_call, wpN_e, e_call, kdOf_at, String.reduceBEq, lk_miss, lk_hit, call_any, bi_len, call_b, wpBi, ns_name, asInt_i, isVar_at, iv_l, r_var, rdName_at, get_miss, get_hit, rd_s, asSeq_l, List.length_map, true_and]
  refine ⟨fun h => absurd h (by (first | lia | omega)), fun _ => st_nil ?_⟩
  simp only
  refine st_par ?_
  simp only [wpVals, List.all_cons, ns_list, ns_const, List.all_nil, Bool.and_true, wpVals1, wpVal, List.length_cons, List.length_nil, Nat.reduceAdd, Nat.reduceLeDiff, wpArgs, ns_call, wpArgs1, List.flatMap_cons, es_list, String.reduceBEq, es_call, es_name, List.flatMap_nil, List.cons_append, List.nil_append, es_const, frz_cons, f1_sh, frz_end, setAll, canSt_at, kdOf_at, lk_miss, lk_hit, cs_l, ↓reduceIte, set_miss, set_nil, Option.some.injEq, exists_eq_left', wpN_e, e_const, c_int, e_call, call_any, bi_list, call_b, wpBi, ns_name, isVar_at, iv_l, e_var, shName_at, get_miss, get_hit, sh_s, asList_l, true_and]
  refine st_while (fun n σ => ∃ rows A B x y r', σ.get (Str.ofString "row") = some (.own (zll rows)) ∧ σ.get (Str.ofString "a") = some (.sh (zl A)) ∧ σ.get (Str.ofString "b") = some (.sh (zl B)) ∧ σ.get (Str.ofString "front") = some (.sh (.int x)) ∧ σ.get (Str.ofString "height") = some (.sh (.int y)) ∧ SubCh A B x y r' ∧ rows ++ r' = a :: b :: r ∧ n = r'.length) r.length
    ⟨[a, b], a, b, 1, 1, r, rfl, rfl, rfl, rfl, rfl, hch, rfl, rfl⟩ fun n σ hI K hK => ?_
  obtain ⟨rows, A, B, x, y, r', g1, g2, g3, g4, g5, hch, htot, rfl⟩ := hI
  simp only [Nat.reduceAdd, wpN_t, t_cmp, cmpOk, cmp_gt, decide_eq_true_eq, decide_eq_false_iff_not, rdE_const, wpN_e, e_const, c_int, asInt_i, rdE_call, e_call, kdOf_at, String.reduceBEq, lk_miss, lk_hit, call_any, bi_len, call_b, wpBi, ns_name, isVar_at, iv_l, r_var, rdName_at, g3, rd_s, asSeq_l, List.length_map, true_and]
  refine ⟨fun hb => ?_, fun hb => ?_⟩
  · cases hch with
    | stop h => (first | lia | omega)
    | step h hb2 la hlb sa sb hne hxy sx sy hch =>
      rename_i r'
      refine st_assign ?_
      simp only [wpVal, es_bin, es_len, List.nil_append, frz_nil, Nat.reduceAdd, wpN_e, e_bin, wpBinE, bin_sub, e_call, kdOf_at, String.reduceBEq, lk_miss, lk_hit, call_any, bi_len, call_b, wpBi, ns_name, isVar_at, iv_l, r_var, rdName_at, g3, rd_s, asSeq_l, List.length_map, true_and, binSub_i, g2]
      have e1 : (A.length : Int) - (B.length : Int) = 1 := by (first | lia | omega)
      rw [e1]
      refine st_assign ?_
      simp only [wpVal, String.reduceBEq, es_call, List.flatMap_cons, es_name, List.flatMap_nil, List.cons_append, List.nil_append, Nat.reduceAdd, wpN_e, e_call, kdOf_at, lk_miss, lk_hit, call_any, bn_zpseudo_rest, call_n, wpArgs, List.all_cons, ns_name, List.all_nil, Bool.and_true, wpArgs1, isVar_at, iv_l, e_var, shName_at, gf_miss, gf_hit, gs_miss, g3, Option.map_some, froze_sh, sh_s, g2, true_and]
      refine ⟨hr.1, _, hr.2 A B h (by (first | lia | omega)) la hlb sa sb, ?_⟩
      refine st_if ?_
      simp only [es_cmp, frz_nil, Nat.reduceAdd, wpN_t, t_cmp, cmpOk, cmp_eq, rdE_const, wpN_e, e_const, c_int, rdE_call, e_call, kdOf_at, String.reduceBEq, lk_miss, lk_hit, call_any, bi_len, call_b, wpBi, ns_name, eqD_i, decide_eq_true_eq, decide_eq_false_iff_not, isVar_at, iv_l, r_var, rdName_at, gs_hit, rd_s, asSeq_l, List.length_map, true_and]
      refine ⟨fun h => absurd h (by (first | lia | omega)), fun _ => st_nil ?_⟩
      simp only
      refine st_par ?_
      simp only [wpVals, List.all_cons, ns_name, ns_call, List.all_nil, Bool.and_true, wpVals1, wpVal, List.flatMap_cons, es_name, String.reduceBEq, es_call, es_bin, List.cons_append, List.nil_append, List.flatMap_nil, setAll, canSt_at, kdOf_at, lk_hit, cs_l, ↓reduceIte, lk_miss, Option.some.injEq, Nat.reduceAdd, exists_eq_left', wpN_e, e_call, call_any, bn_zdivided, call_n, wpArgs, ns_bin, wpArgs1, e_bin, wpBinE, bin_mul, bin_pow, isVar_at, iv_l, e_var, shName_at, gf_miss, gf_hit, gs_miss, frz_nil, gs_hit, Option.map_some, froze_sh, sh_s, asInt_i, g5, g4, binMul_i, true_and, g3]
      have ey : y ^ Int.toNat 1 = y := by
        show y ^ 1 = y
        rw [Int.pow_succ, Int.pow_zero, Int.one_mul]
      simp only [ey]
      refine ⟨hd.1, by decide, by decide, sy.fit, sx.fit, sy.fit, _, hd.2 _ _ hxy (sx.mul sy).fit, ?_⟩
      refine st_append ?_
      simp only [es_name, String.reduceBEq, gf_miss, frz_nil, gs_miss, g1, Option.some.injEq, Slot.own.injEq, exists_eq', Nat.reduceAdd, exists_eq_left', wpN_e, isVar_at, kdOf_at, lk_miss, lk_hit, iv_l, e_var, shName_at, gf_hit, gs_hit, Option.map_some, froze_sh, sh_s, true_and]
      have hlen : (zll rows).length < 2 ^ 20 := by
        have := congrArg List.length htot
        simp at this
        simp; (first | lia | omega)
      refine ⟨hlen, ?_⟩
      refine st_assign ?_
      simp only [wpVal, String.reduceBEq, es_call, List.flatMap_cons, es_name, List.flatMap_nil, List.cons_append, List.nil_append, Nat.reduceAdd, wpN_e, e_call, kdOf_at, lk_miss, lk_hit, call_any, bn_zlead, call_n, wpArgs, List.all_cons, ns_name, List.all_nil, Bool.and_true, wpArgs1, isVar_at, iv_l, e_var, shName_at, gf_hit, gs_miss, gf_miss, frz_nil, gs_hit, Option.map_some, froze_sh, sh_s, true_and]
      refine ⟨hl.1, _, hl.2 B, ?_⟩
      refine st_assign ?_
      simp only [wpVal, String.reduceBEq, es_call, List.flatMap_cons, es_name, List.flatMap_nil, List.cons_append, List.nil_append, Nat.reduceAdd, wpN_e, e_call, kdOf_at, lk_miss, lk_hit, call_any, bn_next_height, call_n, wpArgs, List.all_cons, ns_name, List.all_nil, Bool.and_true, wpArgs1, isVar_at, iv_l, e_var, shName_at, gf_miss, gf_hit, gs_miss, frz_nil, g5, Option.map_some, froze_sh, sh_s, gs_hit, true_and]
      refine ⟨hn.1, _, hn.2 _ _ (leadL_sz sb).fit sy.fit, ?_⟩
      refine st_nil (hK r'.length _ (by simp) ⟨rows ++ [divL (premL A B) (x * y)], B, divL (premL A B) (x * y), leadL B, leadL B, r', ?_, ?_, ?_, ?_, ?_, hch, ?_, rfl⟩)
      all_goals first | (rw [← htot]; simp; done) | (simp only [String.reduceBEq, gs_miss, gf_miss, frz_nil, gf_hit, gs_hit, Option.map_some, froze_sh]; done) | (simp only [String.reduceBEq, gs_miss, gf_miss, frz_nil, gs_hit, Option.some.injEq, Slot.own.injEq]; simp [zll]; done)
  · have hr' : r' = [] := by
      cases hch with
      | stop h => rfl
      | step h hb2 => exact absurd (by (first | lia | omega)) hb
    subst hr'
    refine st_ret ?_
    simp only [es_name, wpN_e, isVar_at, kdOf_at, String.reduceBEq, lk_miss, lk_hit, iv_l, e_var, shName_at, gf_hit, g1, Option.map_some, froze_own, sh_s]
    rw [List.append_nil] at htot
    rw [htot]
    rfl
noncomputable def HasZgcd (C : Ctx) : Prop := C.dfn (Str.ofString "zgcd") ∧ ∀ (a b : List Int) (r : List (List Int)) (c : List Int), a.length ≠ 0 → b.length ≠ 0 → gcdAll a ≠ 0 → gcdAll b ≠ 0 → Fit (gcdAll a) → Fit (gcdAll b) → (primL b).length ≤ (primL a).length → SubCh (primL a) (primL b) 1 1 r → r.length < 900 →
  (primL a :: primL b :: r) = (primL a :: primL b :: r).dropLast ++ [c] → c.length ≤ 1 → C.call (Str.ofString "zgcd") [zl a, zl b] (zl [(Int.gcd (gcdAll a) (gcdAll b) : Int)])
theorem zgcd_gives (C : Ctx) (hp : HasZprim C) (hc : HasZcontent C) (hg : HasGcd C) (hs : HasSubr C) (a b : List Int) (r : List (List Int)) (c : List Int) (ha : a.length ≠ 0) (hb : b.length ≠ 0) (ga : gcdAll a ≠ 0) (gb : gcdAll b ≠ 0) (fa : Fit (gcdAll a)) (fb : Fit (gcdAll b)) (hle : (primL b).length ≤ (primL a).length)
    (hch : SubCh (primL a) (primL b) 1 1 r) (hlr : r.length < 900) (hlast : (primL a :: primL b :: r) = (primL a :: primL b :: r).dropLast ++ [c]) (hc1 : c.length ≤ 1) : Gives C 50 [zl a, zl b] (zl [(Int.gcd (gcdAll a) (gcdAll b) : Int)]) := by
  refine ⟨_, rfl, rfl, ?_⟩
  simp only [List.map_cons, List.map_nil, List.zip_cons_cons, List.zip_nil_right, reduceCtorEq]
  refine st_if ?_
  simp only [es_bool, frz_cons, f1_sh, frz_end, Nat.reduceAdd, wpN_t, t_or, forall_const, reduceCtorEq, false_implies, and_true, t_cmp, cmpOk, cmp_eq, rdE_const, wpN_e, e_const, c_int, rdE_call, e_call, kdOf_at, String.reduceBEq, lk_miss, lk_hit, call_any, bi_len, call_b, wpBi, ns_name, eqD_i, decide_eq_true_eq, decide_eq_false_iff_not, isVar_at, iv_l, r_var, rdName_at, get_miss, get_hit, rd_s, asSeq_l, List.length_map, true_and]
  refine ⟨fun h => absurd h (by (first | lia | omega)), fun _ => ⟨fun h => absurd h (by (first | lia | omega)), fun _ => st_nil ?_⟩⟩
  simp only
  refine st_assign ?_
  simp only [wpVal, String.reduceBEq, es_call, List.flatMap_cons, es_name, List.flatMap_nil, List.cons_append, List.nil_append, frz_cons, f1_sh, frz_end, Nat.reduceAdd, set_miss, set_nil, wpN_e, e_call, kdOf_at, lk_miss, lk_hit, call_any, bn_gcd, call_n, wpArgs, List.all_cons, ns_call, List.all_nil, Bool.and_true, wpArgs1, bn_zcontent, ns_name, isVar_at, iv_l, e_var, shName_at, get_miss, get_hit, sh_s, true_and]
  refine ⟨hg.1, hc.1, _, hc.2 a, hc.1, _, hc.2 b, _, hg.2 _ _, ?_⟩
  refine st_assign ?_
  simp only [wpVal, es_subc, String.reduceBEq, es_call, List.flatMap_cons, es_name, List.flatMap_nil, List.cons_append, List.nil_append, frz_cons, f1_sh, frz_end, Nat.reduceAdd, set_miss, set_nil, wpN_e, e_sub, wpSub, itemD, e_neg, asInt_i, e_const, c_int, rdE_call, e_call, kdOf_at, lk_miss, lk_hit, call_any, bn_subresultants, call_n, wpArgs, List.all_cons, ns_call, List.all_nil, Bool.and_true, wpArgs1, bn_zprimitive, ns_name, isVar_at, iv_l, e_var, shName_at, get_miss, get_hit, sh_s, true_and]
  refine ⟨hs.1, hp.1, _, hp.2 a fun _ => ⟨ga, fa⟩, hp.1, _, hp.2 b fun _ => ⟨gb, fb⟩, _, hs.2 _ _ r hle hch hlr, ?_⟩
  rw [hlast]
  simp only [asSeq_l, pyAt_m1, Option.some.injEq, exists_eq_left']
  refine st_ret ?_
  simp only [es_ife, frz_cons, f1_sh, frz_end, wpN_e, e_ife, e_call, kdOf_at, String.reduceBEq, lk_miss, lk_hit, call_any, bn_zscale, call_n, wpArgs, List.all_cons, ns_call, ns_name, List.all_nil, Bool.and_true, wpArgs1, isVar_at, iv_l, e_var, shName_at, get_miss, get_hit, sh_s, bn_zprimitive, true_and, e_list, List.length_cons, List.length_nil, Nat.reduceAdd, Nat.reduceLeDiff, wpN_t, t_cmp, cmpOk, cmp_gt, decide_eq_true_eq, decide_eq_false_iff_not, rdE_const, e_const, c_int, asInt_i, rdE_call, bi_len, call_b, wpBi, r_var, rdName_at, rd_s, asSeq_l, List.length_map]
  exact ⟨fun h => absurd h (by (first | lia | omega)), fun _ => rfl⟩
noncomputable def HasSimple (C : Ctx) : Prop := C.dfn (Str.ofString "simple_part") ∧ ∀ (f : List Int) (x : Int), FitL f → f.length < 900 → C.call (Str.ofString "zgcd") [zl f, zl (derL f)] (zl [x]) → C.call (Str.ofString "simple_part") [zl f] (zl f)
theorem simple_gives (C : Ctx) (hd : HasZderive C) (hz : C.dfn (Str.ofString "zgcd")) (hg : HasZdeg C) (f : List Int) (x : Int) (ff : FitL f) (lf : f.length < 900) (h : C.call (Str.ofString "zgcd") [zl f, zl (derL f)] (zl [x])) : Gives C 56 [zl f] (zl f) := by
  refine ⟨_, rfl, rfl, ?_⟩
  simp only [List.map_cons, List.map_nil, List.zip_cons_cons, List.zip_nil_right, reduceCtorEq]
  refine st_assign ?_
  simp only [wpVal, String.reduceBEq, es_call, List.flatMap_cons, es_name, List.flatMap_nil, List.cons_append, List.nil_append, frz_cons, f1_sh, frz_end, Nat.reduceAdd, set_miss, set_nil, wpN_e, e_call, kdOf_at, lk_miss, lk_hit, call_any, bn_zgcd, call_n, wpArgs, List.all_cons, ns_name, ns_call, List.all_nil, Bool.and_true, wpArgs1, bn_zderive, isVar_at, iv_l, e_var, shName_at, get_hit, sh_s, true_and]
  refine ⟨hz, hd.1, _, hd.2 f ff (by (first | lia | omega)), _, h, ?_⟩
  refine st_ret ?_
  simp only [es_ife, frz_cons, f1_sh, frz_end, wpN_e, e_ife, e_call, kdOf_at, String.reduceBEq, lk_miss, lk_hit, call_any, isVar_at, iv_l, e_var, shName_at, get_hit, sh_s, implies_true, and_true, wpN_t, t_cmp, cmpOk, cmp_gt, decide_eq_true_eq, rdE_const, e_const, c_int, asInt_i, rdE_call, bn_zdegree, call_n, wpArgs, List.all_cons, ns_name, List.all_nil, Bool.and_true, wpArgs1, get_miss, true_and]
  refine ⟨hg.1, _, hg.2 [x], ?_⟩
  simp only [List.length_cons, List.length_nil, Nat.reduceAdd, asInt_i]
  exact fun h => absurd h (by decide)
theorem roots_gives (C : Ctx) (hs : C.dfn (Str.ofString "simple_part")) (ht : HasSturm C) (hc : HasCount C) (f : List Int) (r : List (List Int)) (ff : FitL f) (lf : f.length < 900) (h1 : C.call (Str.ofString "simple_part") [zl f] (zl f)) (hch : StCh f (derL f) r) (hlr : r.length < 800) (hp : ∀ xs ∈ f :: r, 0 < leadL xs) :
    Gives C 62 [zl f, .str (Str.ofString "-"), .str (Str.ofString "+")] (.int (changes ((f :: r).map fun xs => endS xs true) - changes ((f :: r).map fun xs => endS xs false))) := by
  refine ⟨_, rfl, rfl, ?_⟩
  simp only [List.map_cons, List.map_nil, List.zip_cons_cons, List.zip_nil_right, reduceCtorEq]
  refine st_ret ?_
  simp only [String.reduceBEq, es_call, List.flatMap_cons, es_name, List.flatMap_nil, List.cons_append, List.nil_append, frz_cons, f1_sh, frz_end, wpN_e, e_call, kdOf_at, lk_miss, lk_hit, call_any, bn_count_by_row, call_n, wpArgs, List.all_cons, ns_call, ns_name, List.all_nil, Bool.and_true, wpArgs1, isVar_at, iv_l, e_var, shName_at, get_miss, get_hit, sh_s, bn_sturm_row, bn_simple_part, true_and]
  exact ⟨hc.1, ht.1, hs, _, h1, _, ht.2 f r ff lf hch (by (first | lia | omega)), _, hc.2 (f :: r) hp (by simp; (first | lia | omega)), rfl⟩
end Mine
end
section
open PySem PySem.W PyProof.Rows PySem.Spec PySem.Calls
namespace Mine
/-- what a def gives that turns its first argument in its second statement -/
structure MFn (F : Fn) (p x : Str) (ps : List Str) (e1 e2 i : Expr) (rest : List Stmt) : Prop where
  par : F.params = p :: ps
  body : ∃ q0 q1 q2 q3 q4, F.body = .Assign [.Name x q0] e1 q1 :: .Assign [.Subscript (.Name p q2) i q3] e2 q4 :: rest
  hx : canStore (kdOf F.scope.names) x = true
  hp : isVar (kdOf F.scope.names) p = true
  ne : x ≠ p
  c1 : notComp e1 = true
  c2 : notComp e2 = true
noncomputable def MGives (C : Ctx) (k : Nat) (xs ds : List PyData) (m : Int) (xs' : List PyData) : Prop :=
  ∃ F p x ps e1 e2 i rest, fnAt k = some F ∧ MFn F p x ps e1 e2 i rest ∧ ds.length = ps.length ∧
    (wpN C 20).e (kdOf F.scope.names) e1 ((p, .own xs) :: ps.zip (ds.map .sh)) fun d1 =>
      (wpN C 20).e (kdOf F.scope.names) e2 (Sg.set ((p, .own xs) :: ps.zip (ds.map .sh)) x (.sh d1)) fun d2 =>
      (wpN C 20).e (kdOf F.scope.names) i (Sg.set ((p, .own xs) :: ps.zip (ds.map .sh)) x (.sh d1)) fun j => asInt j fun j => 0 ≤ j ∧ j < xs.length ∧ xs' = xs.set j.toNat d2 ∧
        wpSs (wpS C (kdOf F.scope.names) 9) rest (Sg.frz [p] (Sg.set (Sg.set ((p, .own xs) :: ps.zip (ds.map .sh)) x (.sh d1)) p (.own xs'))) fun fl _ => match fl with | .nxt => False | .ret r => r = .int m
noncomputable def drawV (s : List Int) (spot : Nat) (many : Int) : Int :=
  if spot < s.length then ((s.getD spot 0).natAbs : Int).fmod many else ([3, 2, 1, 4, 1, 0, 2].getD (spot % 7) 0 : Int).fmod many
noncomputable def HasDraw (C : Ctx) : Prop := C.dfn (Str.ofString "_law_draw") ∧ ∀ (s : List Int) (spot : Nat) (many : Int), many ≠ 0 → C.mcall (Str.ofString "_law_draw") [zl s, .int spot] [.int many] (.int (drawV s spot many)) [zl s, .int ((spot : Int) + 1)]
theorem draw_gives (C : Ctx) (s : List Int) (spot : Nat) (many : Int) (hm : many ≠ 0) : MGives C 64 [zl s, .int spot] [.int many] (drawV s spot many) [zl s, .int ((spot : Int) + 1)] := by
  refine ⟨_, _, _, _, _, _, _, _, rfl, ⟨rfl, ⟨_, _, _, _, _, rfl⟩, by decide +kernel, by decide +kernel, by decide +kernel, rfl, rfl⟩, rfl, ?_⟩
  simp only [List.map_cons, List.map_nil, List.zip_cons_cons, List.zip_nil_right, String.reduceBEq, set_miss, set_nil, List.length_cons, List.length_nil, Nat.reduceAdd, set_hit, frz_cons, f1_hit, froze_own, f1_sh, frz_end, wpN_e, e_const, c_int, asInt_i, e_bin, wpBinE, bin_add, isVar_at, kdOf_at, lk_miss, lk_hit, iv_l, e_var, shName_at, get_miss, get_hit, sh_s, e_sub, wpSub, itemD, r_var, rdName_at, rd_o, asSeq_l, pyAt_1, Option.some.injEq, exists_eq_left', binAdd_i]
  refine ⟨by decide, by decide, rfl, ?_⟩
  refine st_if ?_
  simp only [es_cmp, frz_cons, f1_sh, frz_end, Nat.reduceAdd, wpN_t, t_cmp, cmpOk, cmp_lt, decide_eq_true_eq, decide_eq_false_iff_not, rdE_call, wpN_e, e_call, kdOf_at, String.reduceBEq, lk_miss, lk_hit, call_any, bi_len, call_b, wpBi, ns_sub, asInt_i, rdE_sub, e_sub, wpSub, itemD, e_const, c_int, isVar_at, iv_l, r_var, rdName_at, get_hit, rd_s, asSeq_l, pyAt_0, Option.some.injEq, exists_eq_left', List.length_map, true_and, get_miss]
  refine ⟨fun h => ?_, fun h => st_nil ?_⟩
  · have p1 : pyAt (s.map PyData.int) (spot : Int) = some (.int (s.getD spot 0)) := pyAt_map (by (first | lia | omega)) (by (first | lia | omega))
    refine st_ret ?_
    simp only [es_bin, String.reduceBEq, es_call, List.flatMap_cons, es_subs, es_subn, List.flatMap_nil, List.nil_append, es_name, frz_cons, f1_sh, frz_end, wpN_e, e_bin, wpBinE, bin_mod, isVar_at, kdOf_at, lk_miss, lk_hit, iv_l, e_var, shName_at, get_miss, get_hit, sh_s, asInt_i, e_call, call_any, bi_abs, call_b, wpBi, wpArgs, List.all_cons, ns_sub, List.all_nil, Bool.and_true, wpArgs1, e_sub, wpSub, itemD, rdE_sub, e_const, c_int, r_var, rdName_at, rd_s, asSeq_l, pyAt_0, Option.some.injEq, exists_eq_left', p1, true_and]
    refine ⟨hm, ?_⟩
    rw [drawV, if_pos (by (first | lia | omega))]
  · simp only
    refine st_ret ?_
    simp only [es_bin, es_name, frz_cons, f1_sh, frz_end, wpN_e, e_bin, wpBinE, bin_mod, isVar_at, kdOf_at, String.reduceBEq, lk_miss, lk_hit, iv_l, e_var, shName_at, get_miss, get_hit, sh_s, asInt_i, e_sub, wpSub, itemD, e_const, c_int, rdE_tup, e_tup, List.length_cons, List.length_nil, Nat.reduceAdd, Nat.reduceLeDiff, wpArgs, List.all_cons, ns_const, List.all_nil, Bool.and_true, wpArgs1, asSeq_t, true_and]
    have h7 : ((spot : Int)).fmod 7 = ((spot % 7 : Nat) : Int) := by
      rw [Int.fmod_eq_emod_of_nonneg _ (by decide)]; (first | lia | omega)
    have hlt : spot % 7 < 7 := Nat.mod_lt _ (by decide)
    have p1 := pyAt_map (f := PyData.int) (xs := [3, 2, 1, 4, 1, 0, 2]) (j := ((spot % 7 : Nat) : Int)) (by (first | lia | omega)) (by simp; (first | lia | omega))
    simp only [List.map_cons, List.map_nil] at p1
    rw [h7, p1]
    refine ⟨by decide, _, rfl, ?_⟩
    simp only [asInt_i]
    refine ⟨hm, ?_⟩
    rw [drawV, if_neg (by (first | lia | omega))]
    rfl
/-- the rows of polynomials -/
noncomputable def rowsL (al dn : List Int) : Nat → List (List Int)
  | 0 => [[1], [0 - al.getD 0 0, 1]]
  | n + 1 => rowsL al dn n ++ [subL (mulL [0 - al.getD (n + 1) 0, 1] ((rowsL al dn n).getD (n + 1) [])) (scaleL ((rowsL al dn n).getD n []) (dn.getD n 0))]
theorem rowsL_len (al dn : List Int) : ∀ n, (rowsL al dn n).length = n + 2
  | 0 => rfl
  | n + 1 => by simp [rowsL, rowsL_len al dn n]
noncomputable abbrev qll (rows : List (List Int)) : List PyData := rows.map ql
theorem pyAt_ql {rows : List (List Int)} {j : Int} (h0 : 0 ≤ j) (h : j < rows.length) : pyAt (qll rows) j = some (ql (rows.getD j.toNat [])) := by
  unfold pyAt
  have : j.toNat < rows.length := by (first | lia | omega)
  simp [h0, this]
theorem getD_mem {rows : List (List Int)} {i : Nat} (h : i < rows.length) : rows.getD i [] ∈ rows := by
  rw [List.getD_eq_getElem?_getD, List.getElem?_eq_getElem h]
  exact List.getElem_mem h
theorem rowsL_pre (al dn : List Int) (n : Nat) : ∀ m, n ≤ m → ∃ r, rowsL al dn m = rowsL al dn n ++ r
  | 0, h => by
    have : n = 0 := by (first | lia | omega)
    subst this; exact ⟨[], by simp⟩
  | m + 1, h => by
    rcases Nat.lt_or_ge n (m + 1) with q | q
    · obtain ⟨r, e⟩ := rowsL_pre al dn n m (by (first | lia | omega))
      rw [rowsL, e, List.append_assoc]
      exact ⟨_, rfl⟩
    · have : n = m + 1 := by (first | lia | omega)
      subst this; exact ⟨[], by simp⟩
noncomputable def HasRows (C : Ctx) : Prop := C.dfn (Str.ofString "_law_rows") ∧ ∀ (al dn : List Int), al.length = dn.length + 1 → al.length < 100 → SzL 10 al → SzL 10 dn → (∀ xs ∈ rowsL al dn (al.length - 1), SzL 900 xs ∧ xs.length ≤ 100) →
  C.call (Str.ofString "_law_rows") [zl al, zl dn] (.list (qll (rowsL al dn (al.length - 1))))
theorem rows_gives (C : Ctx) (hk : HasQscale C) (hs : HasQsub C) (hm : HasQmul C) (al dn : List Int) (h : al.length = dn.length + 1) (hl : al.length < 100) (sa : SzL 10 al) (sd : SzL 10 dn) (hr : ∀ xs ∈ rowsL al dn (al.length - 1), SzL 900 xs ∧ xs.length ≤ 100) :
    Gives C 65 [zl al, zl dn] (.list (qll (rowsL al dn (al.length - 1)))) := by
  refine ⟨_, rfl, rfl, ?_⟩
  simp only [List.map_cons, List.map_nil, List.zip_cons_cons, List.zip_nil_right, reduceCtorEq]
  refine st_assign ?_
  have p0 : pyAt (al.map PyData.int) 0 = some (.int (al.getD 0 0)) := pyAt_map (by (first | lia | omega)) (by (first | lia | omega))
  simp only [wpVal, List.length_cons, List.length_nil, Nat.reduceAdd, Nat.reduceLeDiff, wpArgs, List.all_cons, ns_list, List.all_nil, Bool.and_true, wpArgs1, es_list, List.flatMap_cons, es_tup, es_const, List.flatMap_nil, List.nil_append, es_bin, es_subn, frz_cons, f1_sh, frz_end, String.reduceBEq, set_miss, set_nil, wpN_e, e_list, ns_tup, e_tup, ns_const, e_const, c_int, true_and, ns_bin, e_bin, wpBinE, bin_sub, e_sub, wpSub, itemD, asInt_i, isVar_at, kdOf_at, lk_hit, iv_l, r_var, rdName_at, get_hit, rd_s, asSeq_l, p0, Option.some.injEq, exists_eq_left', binSub_i]
  refine st_for ?_
  simp only [wpIter, isFn, beq_self_eq_true, kdOf_at, String.reduceBEq, lk_miss, lk_hit, Bool.and_true, wpArgs, List.all_cons, ns_const, ns_call, List.all_nil, wpArgs1, es_call, List.flatMap_cons, es_const, es_len, List.flatMap_nil, List.nil_append, frz_cons, f1_sh, f1_nil, frz_end, Nat.reduceAdd, wpN_e, e_call, call_any, bi_len, call_b, wpBi, ns_name, asInt_i, isVar_at, iv_l, r_var, rdName_at, get_hit, rd_s, asSeq_l, List.length_map, true_and, e_const, c_int, ofS_beq, String.reduceEq, decide_false, Bool.false_eq_true, and_false, and_self, reduceCtorEq, false_and, or_self, or_false]
  refine ⟨by decide, by decide, by (first | lia | omega), by (first | lia | omega), ?_⟩
  have hn : ((al.length : Int) - 1).toNat = al.length - 1 := by (first | lia | omega)
  rw [hn]
  refine wpF_range _ _ (fun n σ => σ.get (Str.ofString "along") = some (.sh (zl al)) ∧ σ.get (Str.ofString "down") = some (.sh (zl dn)) ∧ σ.get (Str.ofString "found") = some (.own (qll (rowsL al dn n)))) ⟨rfl, rfl, rfl⟩ (fun σ h => ?_) fun n σ hi h' K hK => ?_
  · obtain ⟨g1, g2, g3⟩ := h
    refine st_ret ?_
    simp only [es_name, wpN_e, isVar_at, kdOf_at, String.reduceBEq, lk_miss, lk_hit, iv_l, e_var, shName_at, gf_hit, g3, Option.map_some, froze_own, sh_s]
  · obtain ⟨g1, g2, g3⟩ := h'
    have p1 : pyAt (al.map PyData.int) (1 + (n : Int)) = some (.int (al.getD (n + 1) 0)) := by
      rw [pyAt_map (by (first | lia | omega)) (by (first | lia | omega))]
      congr 3; (first | lia | omega)
    have p2 : pyAt (dn.map PyData.int) (1 + (n : Int) - 1) = some (.int (dn.getD n 0)) := by
      rw [pyAt_map (by (first | lia | omega)) (by (first | lia | omega))]
      congr 3; (first | lia | omega)
    have p3 : pyAt (qll (rowsL al dn n)) (1 + (n : Int) - 1) = some (ql ((rowsL al dn n).getD n [])) := by
      rw [pyAt_ql (by (first | lia | omega)) (by rw [rowsL_len]; (first | lia | omega))]
      congr 3; (first | lia | omega)
    have p4 : pyAt (qll (rowsL al dn n)) (1 + (n : Int)) = some (ql ((rowsL al dn n).getD (n + 1) [])) := by
      rw [pyAt_ql (by (first | lia | omega)) (by rw [rowsL_len]; (first | lia | omega))]
      congr 3; (first | lia | omega)
    have hmem : ∀ i, i < n + 2 → SzL 900 ((rowsL al dn n).getD i []) ∧ ((rowsL al dn n).getD i []).length ≤ 100 := fun i hi' => by
      obtain ⟨r, e⟩ := rowsL_pre al dn n (al.length - 1) (by (first | lia | omega))
      refine hr _ ?_
      rw [e]
      exact List.mem_append_left _ (getD_mem (by rw [rowsL_len]; exact hi'))
    obtain ⟨s1, l1⟩ := hmem n (by (first | lia | omega))
    obtain ⟨s2, l2⟩ := hmem (n + 1) (by (first | lia | omega))
    simp only [bindT]
    refine st_assign ?_
    simp only [wpVal, String.reduceBEq, es_call, List.flatMap_cons, es_subn, es_tup, es_const, List.flatMap_nil, List.nil_append, frz_nil, Nat.reduceAdd, wpN_e, e_call, kdOf_at, lk_miss, lk_hit, call_any, bn_qscale, call_n, wpArgs, List.all_cons, ns_sub, ns_tup, List.all_nil, Bool.and_true, wpArgs1, e_tup, List.length_cons, List.length_nil, Nat.reduceLeDiff, ns_const, e_const, c_int, e_sub, wpSub, itemD, e_bin, wpBinE, bin_sub, isVar_at, iv_l, e_var, shName_at, gs_hit, sh_s, binSub_i, asInt_i, r_var, rdName_at, gs_miss, g2, rd_s, asSeq_l, p2, Option.some.injEq, exists_eq_left', true_and, g3, rd_o, p3]
    refine ⟨hk.1, _, hk.2 _ _ s1.fit (sd n).fit, ?_⟩
    refine st_append ?_
    simp only [String.reduceBEq, es_call, List.flatMap_cons, es_list, es_tup, es_bin, es_const, es_subn, List.nil_append, List.flatMap_nil, es_name, List.cons_append, gf_miss, frz_nil, gs_miss, g3, Option.some.injEq, Slot.own.injEq, exists_eq', Nat.reduceAdd, exists_eq_left', wpN_e, e_call, kdOf_at, lk_miss, lk_hit, call_any, bn_qsub, call_n, wpArgs, List.all_cons, ns_call, ns_name, List.all_nil, Bool.and_true, wpArgs1, isVar_at, iv_l, e_var, shName_at, gf_hit, gs_hit, Option.map_some, froze_sh, sh_s, bn_qmul, ns_list, ns_sub, e_sub, wpSub, itemD, asInt_i, r_var, rdName_at, rd_o, asSeq_l, p4, e_list, List.length_cons, List.length_nil, Nat.reduceLeDiff, ns_tup, e_tup, ns_const, e_const, c_int, true_and, ns_bin, e_bin, wpBinE, bin_sub, g1, rd_s, p1, binSub_i]
    have sx : SzL 11 [0 - al.getD (n + 1) 0, 1] := by
      intro i
      match i with
      | 0 => exact Sz.sub Sz.zero (sa (n + 1))
      | 1 => exact Sz.one
      | i + 2 => exact Sz.zero
    refine ⟨hs.1, hm.1, _, hm.2 [0 - al.getD (n + 1) 0, 1] _ sx.le s2.le ?_ (by simp) (by (first | lia | omega)), _, hs.2 _ _ ?_ ?_ ?_ ?_, ?_⟩
    · simp only [List.length_cons, List.length_nil]; (first | lia | omega)
    · refine SzL.fit (k := 2000 + 2 * ((rowsL al dn n).getD (n + 1) []).length) ?_ (by (first | lia | omega))
      unfold mulL
      split
      · exact SzL.nil
      · exact mulO_sz (sx.le) (s2.le) 2
    · exact (s1.scale (sd n)).fit
    · unfold mulL
      split
      · simp
      · rw [mulO_len]; simp only [List.length_cons, List.length_nil]; (first | lia | omega)
    · have := scaleL_len_le ((rowsL al dn n).getD n []) (dn.getD n 0); (first | lia | omega)
    refine ⟨by rw [List.length_map, rowsL_len]; (first | lia | omega), st_nil (hK _ ⟨?_, ?_, ?_⟩)⟩
    · simp only [String.reduceBEq, gs_miss, gf_miss, frz_nil, g1]
    · simp only [String.reduceBEq, gs_miss, gf_miss, frz_nil, g2]
    · simp only [gs_hit, Option.some.injEq, Slot.own.injEq]
      simp [rowsL, qll]
end Mine
end
section
open PySem PySem.W PyProof.Rows PySem.Spec PySem.Calls
namespace Mine
noncomputable def stepC (al dn h : List Int) (i : Nat) : Int :=
  let t := h.getD i 0 * al.getD i 0
  let t := if 0 < i then t + h.getD (i - 1) 0 else t
  if i + 1 < al.length then t + h.getD (i + 1) 0 * dn.getD i 0 else t
theorem stepC_pp {al dn h : List Int} {i : Nat} (h0 : 0 < i) (h1 : i + 1 < al.length) : stepC al dn h i = h.getD i 0 * al.getD i 0 + h.getD (i - 1) 0 + h.getD (i + 1) 0 * dn.getD i 0 := by
  simp only [stepC, if_pos h0, if_pos h1]
theorem stepC_pn {al dn h : List Int} {i : Nat} (h0 : 0 < i) (h1 : ¬ i + 1 < al.length) : stepC al dn h i = h.getD i 0 * al.getD i 0 + h.getD (i - 1) 0 := by
  simp only [stepC, if_pos h0, if_neg h1]
theorem stepC_np {al dn h : List Int} {i : Nat} (h0 : ¬ 0 < i) (h1 : i + 1 < al.length) : stepC al dn h i = h.getD i 0 * al.getD i 0 + h.getD (i + 1) 0 * dn.getD i 0 := by
  simp only [stepC, if_neg h0, if_pos h1]
theorem stepC_nn {al dn h : List Int} {i : Nat} (h0 : ¬ 0 < i) (h1 : ¬ i + 1 < al.length) : stepC al dn h i = h.getD i 0 * al.getD i 0 := by
  simp only [stepC, if_neg h0, if_neg h1]
noncomputable def stepH (al dn h : List Int) : List Int := (List.range al.length).map (stepC al dn h)
noncomputable def highL (al dn : List Int) : Nat → List Int
  | 0 => 1 :: List.replicate (al.length - 1) 0
  | n + 1 => stepH al dn (highL al dn n)
noncomputable def waysL (al dn : List Int) (n : Nat) : List Int := (List.range n).map fun i => (highL al dn i).getD 0 0
theorem highL_len {al dn : List Int} (h : al.length ≠ 0) : ∀ n, (highL al dn n).length = al.length
  | 0 => by simp [highL]; (first | lia | omega)
  | n + 1 => by simp [highL, stepH]
theorem highL_sz {al dn : List Int} (sa : SzL 10 al) (sd : SzL 10 dn) : ∀ n, SzL (12 * n + 1) (highL al dn n)
  | 0 => fun i => by
    cases i with
    | zero => exact Sz.one
    | succ i => exact (SzL.zeros (n := al.length - 1)) i
  | n + 1 => fun i => by
    rw [highL, stepH, range_getD]
    split
    · have ih := highL_sz sa sd n
      have t0 := Sz.mul (ih i) (sa i)
      have t1 : Sz (12 * n + 1 + 10 + 1) (if 0 < i then (highL al dn n).getD i 0 * al.getD i 0 + (highL al dn n).getD (i - 1) 0 else (highL al dn n).getD i 0 * al.getD i 0) := by
        split
        · exact Sz.add t0 ((ih _).le (by (first | lia | omega)))
        · exact t0.le (by (first | lia | omega))
      have t2 := Sz.mul (ih (i + 1)) (sd i)
      show Sz (12 * n + 1 + 10 + 1 + 1) (stepC al dn (highL al dn n) i)
      unfold stepC
      dsimp only
      split
      · exact Sz.add t1 (t2.le (by (first | lia | omega)))
      · exact t1.le (by (first | lia | omega))
    · exact Sz.zero
noncomputable def HasWays (C : Ctx) : Prop := C.dfn (Str.ofString "_law_ways") ∧ ∀ (al dn : List Int) (n : Nat), al.length = dn.length + 1 → al.length < 100 → n < 100 → SzL 10 al → SzL 10 dn → C.call (Str.ofString "_law_ways") [zl al, zl dn, .int n] (zl (waysL al dn n))
theorem ways_gives (C : Ctx) (al dn : List Int) (n : Nat) (h : al.length = dn.length + 1) (hl : al.length < 100) (hn : n < 100) (sa : SzL 10 al) (sd : SzL 10 dn) : Gives C 66 [zl al, zl dn, .int n] (zl (waysL al dn n)) := by
  refine ⟨_, rfl, rfl, ?_⟩
  simp only [List.map_cons, List.map_nil, List.zip_cons_cons, List.zip_nil_right, reduceCtorEq]
  refine st_par ?_
  simp only [wpVals, List.all_cons, ns_bin, ns_list, List.all_nil, Bool.and_true, wpVals1, wpVal, List.flatMap_cons, es_bin, es_list, es_const, List.flatMap_nil, List.nil_append, es_len, frz_cons, f1_sh, frz_end, List.length_nil, Nat.reduceLeDiff, wpArgs, wpArgs1, setAll, canSt_at, kdOf_at, String.reduceBEq, lk_miss, lk_hit, cs_l, ↓reduceIte, set_miss, set_nil, Option.some.injEq, Nat.reduceAdd, exists_eq_left', true_and, wpN_e, e_bin, wpBinE, bin_add, List.length_cons, ns_const, bin_sub, e_const, c_int, e_call, call_any, bi_len, call_b, wpBi, ns_name, binSub_i, asInt_i, isVar_at, iv_l, r_var, rdName_at, get_hit, rd_s, asSeq_l, List.length_map, e_list, binAdd_l, List.cons_append]
  have e1 : ((al.length : Int) - 1).toNat = al.length - 1 := by (first | lia | omega)
  rw [e1, rep_z]
  refine ⟨by (first | lia | omega), by (first | lia | omega), by simp; (first | lia | omega), ?_⟩
  refine st_for ?_
  simp only [wpIter, isFn, beq_self_eq_true, kdOf_at, String.reduceBEq, lk_miss, lk_hit, Bool.and_true, wpArgs, List.all_cons, ns_name, List.all_nil, wpArgs1, es_call, List.flatMap_cons, es_name, List.flatMap_nil, List.cons_append, List.nil_append, frz_cons, f1_sh, f1_miss, f1_nil, frz_end, Nat.reduceAdd, wpN_e, isVar_at, iv_l, e_var, shName_at, get_miss, get_hit, sh_s, asInt_i, true_and, ofS_beq, String.reduceEq, decide_false, Bool.false_eq_true, false_and, reduceCtorEq, e_call, call_any, or_self, or_false]
  refine ⟨by (first | lia | omega), by (first | lia | omega), ?_⟩
  refine wpF_range _ _ (fun t σ => σ.get (Str.ofString "along") = some (.sh (zl al)) ∧ σ.get (Str.ofString "down") = some (.sh (zl dn)) ∧ σ.get (Str.ofString "heights") = some (.sh (zl (highL al dn t))) ∧ σ.get (Str.ofString "found") = some (.own ((waysL al dn t).map PyData.int))) ⟨rfl, rfl, ?_, rfl⟩ (fun σ h => ?_) fun t σ ht h' K hK => ?_
  · simp [Sg.get, ofS_inj, highL, zl]
  · obtain ⟨g1, g2, g3, g4⟩ := h
    refine st_ret ?_
    simp only [es_name, wpN_e, isVar_at, kdOf_at, String.reduceBEq, lk_miss, lk_hit, iv_l, e_var, shName_at, gf_hit, g4, Option.map_some, froze_own, sh_s]
    rfl
  · obtain ⟨g1, g2, g3, g4⟩ := h'
    have ht : t < n := by simpa using ht
    have hal : al.length ≠ 0 := by (first | lia | omega)
    have hlen := highL_len (dn := dn) hal t
    have p0 : pyAt ((highL al dn t).map PyData.int) 0 = some (.int ((highL al dn t).getD 0 0)) := pyAt_map (by (first | lia | omega)) (by (first | lia | omega))
    simp only [bindT]
    refine st_append ?_
    simp only [es_subn, frz_nil, String.reduceBEq, gs_miss, g4, Option.some.injEq, Slot.own.injEq, exists_eq', Nat.reduceAdd, exists_eq_left', wpN_e, e_sub, wpSub, itemD, e_const, c_int, asInt_i, isVar_at, kdOf_at, lk_miss, lk_hit, iv_l, r_var, rdName_at, g3, rd_s, asSeq_l, p0, true_and]
    refine ⟨by simp [waysL]; (first | lia | omega), ?_⟩
    refine st_assign ?_
    simp only [wpVal, List.length_nil, Nat.reduceLeDiff, wpArgs, List.all_nil, wpArgs1, Nat.reduceAdd, es_list, List.flatMap_nil, frz_nil, true_and]
    refine st_for ?_
    simp only [wpIter, isFn, beq_self_eq_true, kdOf_at, String.reduceBEq, lk_miss, lk_hit, Bool.and_true, wpArgs, List.all_cons, ns_call, List.all_nil, wpArgs1, es_call, List.flatMap_cons, es_len, List.flatMap_nil, List.nil_append, frz_nil, Nat.reduceAdd, wpN_e, e_call, call_any, bi_len, call_b, wpBi, ns_name, asInt_i, isVar_at, iv_l, r_var, rdName_at, gs_miss, g1, rd_s, asSeq_l, List.length_map, true_and, ofS_beq, String.reduceEq, decide_false, Bool.false_eq_true, false_and, reduceCtorEq, or_self, or_false]
    refine ⟨by (first | lia | omega), by (first | lia | omega), ?_⟩
    have hr : ((al.length : Int)).toNat = al.length := by (first | lia | omega)
    rw [hr]
    refine wpF_range _ _ (fun i σ => σ.get (Str.ofString "along") = some (.sh (zl al)) ∧ σ.get (Str.ofString "down") = some (.sh (zl dn)) ∧ σ.get (Str.ofString "heights") = some (.sh (zl (highL al dn t))) ∧ σ.get (Str.ofString "found") = some (.own ((waysL al dn (t + 1)).map PyData.int)) ∧ σ.get (Str.ofString "later") = some (.own (((List.range i).map (stepC al dn (highL al dn t))).map PyData.int))) ⟨?_, ?_, ?_, ?_, ?_⟩ (fun σ h => ?_) fun i σ hi h' K' hK' => ?_
    · simp only [String.reduceBEq, gs_miss, g1]
    · simp only [String.reduceBEq, gs_miss, g2]
    · simp only [String.reduceBEq, gs_miss, g3]
    · simp only [String.reduceBEq, gs_miss, gs_hit, Option.some.injEq, Slot.own.injEq]
      simp [waysL, List.range_succ]
    · simp only [gs_hit, List.map_map, Option.some.injEq, Slot.own.injEq]
      rfl
    · obtain ⟨g1, g2, g3, g4, g5⟩ := h
      refine st_assign ?_
      simp only [wpVal, es_name, Nat.reduceAdd, wpN_e, isVar_at, kdOf_at, String.reduceBEq, lk_miss, lk_hit, iv_l, e_var, shName_at, gf_hit, g5, List.map_map, Option.map_some, froze_own, sh_s]
      refine st_nil (hK _ ⟨?_, ?_, ?_, ?_⟩)
      · simp only [String.reduceBEq, gs_miss, gf_miss, frz_nil, g1]
      · simp only [String.reduceBEq, gs_miss, gf_miss, frz_nil, g2]
      · simp only [gs_hit, Option.some.injEq, Slot.sh.injEq]
        simp [zl, highL, stepH]
      · simp only [String.reduceBEq, gs_miss, gf_miss, frz_nil, g4]
    · obtain ⟨g1, g2, g3, g4, g5⟩ := h'
      have sh := highL_sz sa sd t
      have k1 : 12 * t + 1 ≤ 4000 := by (first | lia | omega)
      have q0 : pyAt ((highL al dn t).map PyData.int) (i : Int) = some (.int ((highL al dn t).getD i 0)) := pyAt_map (by (first | lia | omega)) (by (first | lia | omega))
      have q1 : pyAt (al.map PyData.int) (i : Int) = some (.int (al.getD i 0)) := pyAt_map (by (first | lia | omega)) (by (first | lia | omega))
      simp only [bindT]
      refine st_assign ?_
      simp only [wpVal, es_bin, es_subn, List.nil_append, frz_nil, Nat.reduceAdd, wpN_e, e_bin, wpBinE, bin_mul, e_sub, wpSub, itemD, isVar_at, kdOf_at, String.reduceBEq, lk_miss, lk_hit, iv_l, e_var, shName_at, gs_hit, sh_s, asInt_i, r_var, rdName_at, gs_miss, g1, rd_s, asSeq_l, q1, Option.some.injEq, exists_eq_left', g3, q0, binMul_i]
      refine ⟨(sh i).fit k1, (sa i).fit, ?_⟩
      refine st_if ?_
      simp only [es_cmp, frz_nil, Nat.reduceAdd, wpN_t, t_cmp, cmpOk, cmp_gt, decide_eq_true_eq, decide_eq_false_iff_not, rdE_const, wpN_e, e_const, c_int, asInt_i, isVar_at, kdOf_at, String.reduceBEq, lk_miss, lk_hit, iv_l, r_var, rdName_at, gs_miss, gs_hit, rd_s, true_and]
      have fin : ∀ (σ' : Sg), σ'.get (Str.ofString "along") = some (.sh (zl al)) → σ'.get (Str.ofString "down") = some (.sh (zl dn)) → σ'.get (Str.ofString "heights") = some (.sh (zl (highL al dn t))) → σ'.get (Str.ofString "found") = some (.own ((waysL al dn (t + 1)).map PyData.int)) →
          σ'.get (Str.ofString "later") = some (.own ((((List.range i).map (stepC al dn (highL al dn t))).map PyData.int) ++ [.int (stepC al dn (highL al dn t) i)])) → K' σ' := fun σ' a1 a2 a3 a4 a5 => hK' σ' ⟨a1, a2, a3, a4, by rw [a5]; simp [List.range_succ]⟩
      refine ⟨fun h0 => ?_, fun h0 => ?_⟩
      · have q2 : pyAt ((highL al dn t).map PyData.int) ((i : Int) - 1) = some (.int ((highL al dn t).getD (i - 1) 0)) := by
          rw [pyAt_map (by (first | lia | omega)) (by (first | lia | omega))]
          congr 3; (first | lia | omega)
        refine st_assign ?_
        simp only [wpVal, es_bin, es_name, es_subn, List.cons_append, List.nil_append, Nat.reduceAdd, wpN_e, e_bin, wpBinE, bin_add, e_sub, wpSub, itemD, bin_sub, e_const, c_int, isVar_at, kdOf_at, String.reduceBEq, lk_miss, lk_hit, iv_l, e_var, shName_at, gf_miss, frz_nil, gs_miss, gs_hit, sh_s, binSub_i, asInt_i, r_var, rdName_at, g3, rd_s, asSeq_l, q2, Option.some.injEq, exists_eq_left', gf_hit, Option.map_some, froze_sh, binAdd_i]
        refine st_nil ?_
        simp only
        refine st_if ?_
        simp only [es_cmp, frz_nil, Nat.reduceAdd, wpN_t, t_cmp, cmpOk, cmp_lt, decide_eq_true_eq, decide_eq_false_iff_not, rdE_call, wpN_e, e_call, kdOf_at, String.reduceBEq, lk_miss, lk_hit, call_any, bi_len, call_b, wpBi, ns_name, asInt_i, isVar_at, iv_l, r_var, rdName_at, gs_miss, gf_miss, g1, rd_s, asSeq_l, List.length_map, true_and, rdE_bin, e_bin, wpBinE, bin_add, e_const, c_int, e_var, shName_at, gs_hit, sh_s, binAdd_i]
        refine ⟨fun h1 => ?_, fun h1 => ?_⟩
        · have q3 : pyAt ((highL al dn t).map PyData.int) ((i : Int) + 1) = some (.int ((highL al dn t).getD (i + 1) 0)) := pyAt_map (by (first | lia | omega)) (by (first | lia | omega))
          have q4 : pyAt (dn.map PyData.int) (i : Int) = some (.int (dn.getD i 0)) := pyAt_map (by (first | lia | omega)) (by (first | lia | omega))
          refine st_assign ?_
          simp only [wpVal, es_bin, es_name, es_subn, List.nil_append, List.cons_append, Nat.reduceAdd, wpN_e, e_bin, wpBinE, bin_add, bin_mul, e_sub, wpSub, itemD, isVar_at, kdOf_at, String.reduceBEq, lk_miss, lk_hit, iv_l, e_var, shName_at, gf_miss, frz_nil, gs_miss, gs_hit, sh_s, asInt_i, r_var, rdName_at, g2, rd_s, asSeq_l, q4, Option.some.injEq, exists_eq_left', e_const, c_int, binAdd_i, g3, q3, binMul_i, gf_hit, Option.map_some, froze_sh]
          refine ⟨(sh _).fit k1, (sd _).fit, st_nil ?_⟩
          simp only
          refine st_append ?_
          simp only [es_name, String.reduceBEq, gf_miss, frz_nil, gs_miss, g5, List.map_map, Option.some.injEq, Slot.own.injEq, exists_eq', Nat.reduceAdd, exists_eq_left', wpN_e, isVar_at, kdOf_at, lk_miss, lk_hit, iv_l, e_var, shName_at, gf_hit, gs_hit, Option.map_some, froze_sh, sh_s, true_and]
          refine ⟨by simp; (first | lia | omega), st_nil ?_⟩
          refine fin _ ?_ ?_ ?_ ?_ ?_
          rotate_left 4
          · simp only [gs_hit, List.map_map, stepC_pp (al := al) (dn := dn) (h := highL al dn t) (i := i) (by (first | lia | omega)) (by (first | lia | omega))]
          all_goals simp only [String.reduceBEq, gs_miss, gf_miss, frz_nil, g1, g2, g3, g4]
        · refine st_nil ?_
          simp only
          refine st_append ?_
          simp only [es_name, String.reduceBEq, gf_miss, frz_nil, gs_miss, g5, List.map_map, Option.some.injEq, Slot.own.injEq, exists_eq', Nat.reduceAdd, exists_eq_left', wpN_e, isVar_at, kdOf_at, lk_miss, lk_hit, iv_l, e_var, shName_at, gf_hit, gs_hit, Option.map_some, froze_sh, sh_s, true_and]
          refine ⟨by simp; (first | lia | omega), st_nil ?_⟩
          refine fin _ ?_ ?_ ?_ ?_ ?_
          rotate_left 4
          · simp only [gs_hit, List.map_map, stepC_pn (al := al) (dn := dn) (h := highL al dn t) (i := i) (by (first | lia | omega)) (by (first | lia | omega))]
          all_goals simp only [String.reduceBEq, gs_miss, gf_miss, frz_nil, g1, g2, g3, g4]
      · refine st_nil ?_
        simp only
        refine st_if ?_
        simp only [es_cmp, frz_nil, Nat.reduceAdd, wpN_t, t_cmp, cmpOk, cmp_lt, decide_eq_true_eq, decide_eq_false_iff_not, rdE_call, wpN_e, e_call, kdOf_at, String.reduceBEq, lk_miss, lk_hit, call_any, bi_len, call_b, wpBi, ns_name, asInt_i, isVar_at, iv_l, r_var, rdName_at, gs_miss, g1, rd_s, asSeq_l, List.length_map, true_and, rdE_bin, e_bin, wpBinE, bin_add, e_const, c_int, e_var, shName_at, gs_hit, sh_s, binAdd_i]
        refine ⟨fun h1 => ?_, fun h1 => ?_⟩
        · have q3 : pyAt ((highL al dn t).map PyData.int) ((i : Int) + 1) = some (.int ((highL al dn t).getD (i + 1) 0)) := pyAt_map (by (first | lia | omega)) (by (first | lia | omega))
          have q4 : pyAt (dn.map PyData.int) (i : Int) = some (.int (dn.getD i 0)) := pyAt_map (by (first | lia | omega)) (by (first | lia | omega))
          refine st_assign ?_
          simp only [wpVal, es_bin, es_name, es_subn, List.nil_append, List.cons_append, Nat.reduceAdd, wpN_e, e_bin, wpBinE, bin_add, bin_mul, e_sub, wpSub, itemD, isVar_at, kdOf_at, String.reduceBEq, lk_miss, lk_hit, iv_l, e_var, shName_at, gf_miss, frz_nil, gs_miss, gs_hit, sh_s, asInt_i, r_var, rdName_at, g2, rd_s, asSeq_l, q4, Option.some.injEq, exists_eq_left', e_const, c_int, binAdd_i, g3, q3, binMul_i, gf_hit, Option.map_some, froze_sh]
          refine ⟨(sh _).fit k1, (sd _).fit, st_nil ?_⟩
          simp only
          refine st_append ?_
          simp only [es_name, String.reduceBEq, gf_miss, frz_nil, gs_miss, g5, List.map_map, Option.some.injEq, Slot.own.injEq, exists_eq', Nat.reduceAdd, exists_eq_left', wpN_e, isVar_at, kdOf_at, lk_miss, lk_hit, iv_l, e_var, shName_at, gf_hit, gs_hit, Option.map_some, froze_sh, sh_s, true_and]
          refine ⟨by simp; (first | lia | omega), st_nil ?_⟩
          refine fin _ ?_ ?_ ?_ ?_ ?_
          rotate_left 4
          · simp only [gs_hit, List.map_map, stepC_np (al := al) (dn := dn) (h := highL al dn t) (i := i) (by (first | lia | omega)) (by (first | lia | omega))]
          all_goals simp only [String.reduceBEq, gs_miss, gf_miss, frz_nil, g1, g2, g3, g4]
        · refine st_nil ?_
          simp only
          refine st_append ?_
          simp only [es_name, String.reduceBEq, gf_miss, frz_nil, gs_miss, g5, List.map_map, Option.some.injEq, Slot.own.injEq, exists_eq', Nat.reduceAdd, exists_eq_left', wpN_e, isVar_at, kdOf_at, lk_miss, lk_hit, iv_l, e_var, shName_at, gf_hit, gs_hit, Option.map_some, froze_sh, sh_s, true_and]
          refine ⟨by simp; (first | lia | omega), st_nil ?_⟩
          refine fin _ ?_ ?_ ?_ ?_ ?_
          rotate_left 4
          · simp only [gs_hit, List.map_map, stepC_nn (al := al) (dn := dn) (h := highL al dn t) (i := i) (by (first | lia | omega)) (by (first | lia | omega))]
          all_goals simp only [String.reduceBEq, gs_miss, gf_miss, frz_nil, g1, g2, g3, g4]
end Mine
end
section
open PySem PySem.W PyProof.Rows PySem.Spec PySem.Calls
namespace Mine
theorem mut_l {C : Ctx} {R : Rec} {kd : KD} {f p : Str} {fp pp cp q ip : Pos} {n : Nat} {as : List Expr} {op : Operator} {c : Int} {σ : Sg} {k : PyData → Sg → Prop} :
    wpMut C R kd (.BinOp (.Call (.Name f fp) (.Name p pp :: as) [] cp) op (.Constant (.int c) n ip) q) σ k =
      (kd f = some .globalImplicit ∧ C.dfn f ∧ isVar kd p = true ∧ ∃ ds, σ.get p = some (.own ds) ∧ wpArgs R kd as σ fun xs => ∃ d ds', C.mcall f ds xs d ds' ∧ wpBin op d (.int c) fun r => k r (σ.set p (.own ds'))) := rfl
theorem mut_r {C : Ctx} {R : Rec} {kd : KD} {f p : Str} {fp pp cp q ip : Pos} {n : Nat} {as : List Expr} {op : Operator} {c : Int} {σ : Sg} {k : PyData → Sg → Prop} :
    wpMut C R kd (.BinOp (.Constant (.int c) n ip) op (.Call (.Name f fp) (.Name p pp :: as) [] cp) q) σ k =
      (kd f = some .globalImplicit ∧ C.dfn f ∧ isVar kd p = true ∧ ∃ ds, σ.get p = some (.own ds) ∧ wpArgs R kd as σ fun xs => ∃ d ds', C.mcall f ds xs d ds' ∧ wpBin op (.int c) d fun r => k r (σ.set p (.own ds'))) := rfl
noncomputable def alL (s : List Int) (n : Nat) : List Int := (List.range n).map fun i => drawV s i 5 - 2
noncomputable def dnL (s : List Int) (n : Nat) : List Int := (List.range n).map fun i => 1 + drawV s (4 + i) 3
noncomputable def lowL (d : Int) (T : List Int) : List Int := (T.take 6).map fun x => (0 - d) * x
noncomputable def Tn (al dn : List Int) : Nat → List Int
  | 0 => invL (1 :: (0 - al.getD 3 0) :: List.replicate 6 0) 8
  | i + 1 => invL (1 :: (0 - al.getD (2 - i) 0) :: lowL (dn.getD (2 - i) 0) (Tn al dn i)) 8
noncomputable def worthL (dn : List Int) : Nat → Int
  | 0 => 1
  | n + 1 => worthL dn n * dn.getD n 0
noncomputable def rowAt (al dn : List Int) (i : Nat) : List Int := (rowsL al dn 3).getD i []
noncomputable def totalL (al dn : List Int) (i j : Nat) : Int := ((List.range (mulL (rowAt al dn i) (rowAt al dn j)).length).map fun p => (mulL (rowAt al dn i) (rowAt al dn j)).getD p 0 * (waysL al dn 8).getD p 0).sum
noncomputable def aboveL (al dn : List Int) : List Int := (rowsL (al.drop 1) (dn.drop 1) 2).getD 3 []
structure LawOK (al dn : List Int) : Prop where
  la : al.length = 4
  ld : dn.length = 3
  sa : SzL 10 al
  sd : SzL 10 dn
  sT : ∀ i, i < 4 → SzL 64 (Tn al dn i)
  told : Tn al dn 3 = waysL al dn 8
  rows : ∀ xs ∈ rowsL al dn 3, SzL 400 xs ∧ xs.length ≤ 5
  rl : ∀ i j, i < 4 → j ≤ i → (mulL (rowAt al dn i) (rowAt al dn j)).length ≤ 8
  total : ∀ i j, i < 4 → j ≤ i → totalL al dn i j = if i = j then worthL dn i else 0
  above : ∀ xs ∈ rowsL (al.drop 1) (dn.drop 1) 2, SzL 400 xs ∧ xs.length ≤ 5
  r4 : (rowAt al dn 4).length = 5
  a3 : (aboveL al dn).length = 4
  cv : (List.range 8).map (conv (Tn al dn 3) ((rowAt al dn 4).reverse ++ [0, 0, 0])) = (aboveL al dn).reverse ++ [0, 0, 0, 0]
  sC : ∀ n, n < 8 → Sz 64 (conv (Tn al dn 3) ((rowAt al dn 4).reverse ++ [0, 0, 0]) n)
theorem sl_hi {f : Int → PyData} {xs : List Int} {n : Nat} {i : Int} (h : i = n) : sliceD (xs.map f) none (some i) none = some ((xs.take n).map f) := by
  subst h; simp [sliceD]
theorem sl_lo {f : Int → PyData} {xs : List Int} : sliceD (xs.map f) (some 1) none none = some ((xs.drop 1).map f) := by simp [sliceD]
theorem sl_rev {f : Int → PyData} {xs : List Int} : sliceD (xs.map f) none none (some (-1)) = some (xs.reverse.map f) := by simp [sliceD]
theorem Tn_len (al dn : List Int) : ∀ i, (Tn al dn i).length = 8
  | 0 => invL_length _ _
  | i + 1 => invL_length _ _
theorem worthL_sz {dn : List Int} (sd : SzL 10 dn) : ∀ n, Sz (10 * n + 1) (worthL dn n)
  | 0 => Sz.one
  | n + 1 => ((worthL_sz sd n).mul (sd n)).le (by (first | lia | omega))
theorem law_gives (C : Ctx) (hdr : HasDraw C) (hi : HasInv C) (hm : HasBin C "rmul" (· * ·)) (hw : HasWays C) (hr : HasRows C) (hq : HasQmul C) (hs : HasSmul C) (hcr : C.dfn (Str.ofString "count_roots")) (s : List Int)
    (P : LawOK (alL (s.take 7) 4) (dnL (s.take 7) 3)) (hc : C.call (Str.ofString "count_roots") [zl (rowAt (alL (s.take 7) 4) (dnL (s.take 7) 3) 4), .str (Str.ofString "-"), .str (Str.ofString "+")] (.int 4)) :
    Gives C 67 [zl s] (.bool true) := by
  refine ⟨_, rfl, rfl, ?_⟩
  simp only [List.map_cons, List.map_nil, List.zip_cons_cons, List.zip_nil_right, reduceCtorEq]
  refine st_par ?_
  simp only [wpVals, List.all_cons, ns_list, List.all_nil, Bool.and_true, wpVals1, wpVal, List.length_cons, List.length_nil, Nat.reduceAdd, Nat.reduceLeDiff, wpArgs, ns_comp, ns_const, wpArgs1, List.flatMap_cons, es_list, es_comp, es_const, List.flatMap_nil, List.nil_append, frz_cons, f1_sh, frz_end, setAll, canSt_at, kdOf_at, String.reduceBEq, lk_miss, lk_hit, cs_l, ↓reduceIte, cs_c, set_miss, set_nil, Option.some.injEq, exists_eq_left', true_and, wpN_e, e_const, c_int, e_comp, wpComp, dot0, get_miss, get_nil, plainIter, isTupT, isEnumE, wpIter, bindT, wpTests, e_call, compKd, List.map_cons, nk_l, List.lookup_nil, Bool.false_and, Bool.false_eq_true, nk_g, List.map_nil, call_any, bi_int, call_b, wpBi, ns_name, isVar_at, iv_l, e_var, shName_at, get_hit, sh_s, e_sub, wpSub, wpPart, asSeq_l, asInt_i, r_var, rdName_at, rd_s, asList_l, sl_hi (n := 7) (i := 7) rfl]
  refine ⟨by decide +kernel, fun _ => true, fun d => d, fun d hd => ?_, ?_⟩
  · obtain ⟨x, hx, rfl⟩ := List.mem_map.mp hd
    simp only [asInt_i, implies_true, and_self]
  have e0 : (((s.take 7).map PyData.int).filter fun _ => true).map (fun d => d) = (s.take 7).map PyData.int := by rw [filter_T]; exact List.map_id'' (fun _ => rfl) _
  rw [e0]
  refine st_for ?_
  simp only [wpIter, isFn, beq_self_eq_true, kdOf_at, String.reduceBEq, lk_miss, lk_hit, Bool.and_true, wpArgs, List.all_cons, ns_const, List.all_nil, wpArgs1, es_call, List.flatMap_cons, es_const, List.flatMap_nil, List.nil_append, frz_cons, f1_sh, f1_nil, frz_end, Nat.reduceAdd, wpN_e, e_const, c_int, asInt_i, true_and, ofS_beq, String.reduceEq, decide_false, Bool.false_eq_true, false_and, reduceCtorEq, e_call, call_any, or_self, or_false]
  refine ⟨by decide, by decide, ?_⟩
  refine wpF_range _ _ (fun i σ => σ.get (Str.ofString "pool") = some (.own [zl (s.take 7), .int i]) ∧ σ.get (Str.ofString "along") = some (.own ((alL (s.take 7) i).map PyData.int)) ∧ σ.get (Str.ofString "down") = some (.own []) ∧ σ.get (Str.ofString ".0") = none) ⟨rfl, rfl, rfl, rfl⟩ (fun σ h => ?_) fun i σ ht h' K hK => ?_
  case refine_2 =>
    obtain ⟨g1, g2, g3, g0⟩ := h'
    simp only [bindT]
    refine st_appmut ?_
    simp only [String.reduceBEq, gs_miss, g2, Option.some.injEq, Slot.own.injEq, exists_eq', Nat.reduceAdd, mut_l, kdOf_at, lk_miss, lk_hit, isVar_at, iv_l, g1, wpArgs, List.all_cons, ns_const, List.all_nil, Bool.and_true, wpArgs1, exists_eq_left', bin_sub, wpN_e, e_const, c_int, true_and]
    refine ⟨hdr.1, _, _, hdr.2 (s.take 7) i 5 (by decide), ?_⟩
    simp only [binSub_i]
    have ht : i < 4 := ht
    refine ⟨by simp [alL]; (first | lia | omega), st_nil (hK _ ⟨?_, ?_, ?_, ?_⟩)⟩
    · simp only [String.reduceBEq, gs_miss, gs_hit, Option.some.injEq, Slot.own.injEq]
      rfl
    · simp only [gs_hit, Option.some.injEq, Slot.own.injEq]
      simp [alL, List.range_succ]
    · simp only [String.reduceBEq, gs_miss, g3]
    · simp only [String.reduceBEq, gs_miss, g0]
  obtain ⟨g1, g2, g3, g0⟩ := h
  refine st_for ?_
  simp only [wpIter, isFn, beq_self_eq_true, kdOf_at, String.reduceBEq, lk_miss, lk_hit, Bool.and_true, wpArgs, List.all_cons, ns_const, List.all_nil, wpArgs1, es_call, List.flatMap_cons, es_const, List.flatMap_nil, List.nil_append, frz_nil, Nat.reduceAdd, wpN_e, e_const, c_int, asInt_i, true_and, ofS_beq, String.reduceEq, decide_false, Bool.false_eq_true, false_and, reduceCtorEq, e_call, call_any, or_self, or_false]
  refine ⟨by decide, by decide, ?_⟩
  refine wpF_range _ _ (fun i σ => σ.get (Str.ofString "pool") = some (.own [zl (s.take 7), .int ((4 + i : Nat) : Int)]) ∧ σ.get (Str.ofString "along") = some (.own ((alL (s.take 7) 4).map PyData.int)) ∧ σ.get (Str.ofString "down") = some (.own ((dnL (s.take 7) i).map PyData.int)) ∧ σ.get (Str.ofString ".0") = none) ⟨g1, g2, g3, g0⟩ (fun σ h => ?_) fun i σ ht h' K hK => ?_
  case refine_2 =>
    obtain ⟨g1, g2, g3, g0⟩ := h'
    simp only [bindT]
    refine st_appmut ?_
    simp only [String.reduceBEq, gs_miss, g3, Option.some.injEq, Slot.own.injEq, exists_eq', Nat.reduceAdd, mut_r, kdOf_at, lk_miss, lk_hit, isVar_at, iv_l, g1, wpArgs, List.all_cons, ns_const, List.all_nil, Bool.and_true, wpArgs1, exists_eq_left', bin_add, wpN_e, e_const, c_int, true_and]
    refine ⟨hdr.1, _, _, hdr.2 (s.take 7) (4 + i) 3 (by decide), ?_⟩
    simp only [binAdd_i]
    have ht : i < 3 := ht
    refine ⟨by simp [dnL]; (first | lia | omega), st_nil (hK _ ⟨?_, ?_, ?_, ?_⟩)⟩
    · simp only [String.reduceBEq, gs_miss, gs_hit, Option.some.injEq, Slot.own.injEq]
      rfl
    · simp only [String.reduceBEq, gs_miss, g2]
    · simp only [gs_hit, Option.some.injEq, Slot.own.injEq]
      simp [dnL, List.range_succ]
    · simp only [String.reduceBEq, gs_miss, g0]
  obtain ⟨-, g2, g3, g0⟩ := h
  have g3 : σ.get (Str.ofString "down") = some (.own ((dnL (s.take 7) 3).map PyData.int)) := g3
  clear g1
  generalize alL (s.take 7) 4 = al at *
  generalize dnL (s.take 7) 3 = dn at *
  have la := P.la
  have ld := P.ld
  have hdnp : ∀ j : Nat, j < 3 → pyAt (dn.map PyData.int) (j : Int) = some (.int (dn.getD j 0)) := fun j hj => pyAt_map (by (first | lia | omega)) (by (first | lia | omega))
  have halp : ∀ j : Nat, j < 4 → pyAt (al.map PyData.int) (j : Int) = some (.int (al.getD j 0)) := fun j hj => pyAt_map (by (first | lia | omega)) (by (first | lia | omega))
  have inv8 : ∀ (x : Int) (L : List Int) (i : Nat), L.length = 6 → Sz 900 (0 - x) → SzL 900 L → i < 4 → Tn al dn i = invL (1 :: (0 - x) :: L) 8 → C.call (Str.ofString "sinverse") [ql (1 :: (0 - x) :: L)] (ql (Tn al dn i)) := fun x L i h6 sx sL hi4 e => by
    have := hi.2 (1 :: (0 - x) :: L) rfl (by simp [h6]) ?_ ?_
    · rw [e]
      simpa [h6] using this
    · intro j
      match j with
      | 0 => exact Sz.one
      | 1 => exact sx.le
      | j + 2 => exact (sL j).le
    · have hT := P.sT i hi4
      rw [e] at hT
      simpa [h6] using hT
  have a3 := halp 3 (by (first | lia | omega))
  simp only
  refine st_assign ?_
  have a3' : pyAt (al.map PyData.int) 3 = some (.int (al.getD 3 0)) := a3
  simp only [wpVal, String.reduceBEq, es_call, List.flatMap_cons, es_bin, es_list, es_tup, es_const, List.flatMap_nil, List.nil_append, es_subn, frz_nil, Nat.reduceAdd, wpN_e, e_call, kdOf_at, lk_miss, lk_hit, call_any, bn_sinverse, call_n, wpArgs, List.all_cons, ns_bin, List.all_nil, Bool.and_true, wpArgs1, e_bin, wpBinE, bin_add, List.length_cons, List.length_nil, Nat.reduceLeDiff, ns_tup, e_const, c_int, asInt_i, e_tup, ns_const, true_and, e_list, binAdd_l, List.cons_append, bin_sub, e_sub, wpSub, itemD, isVar_at, iv_l, r_var, rdName_at, g2, rd_o, asSeq_l, a3', Option.some.injEq, exists_eq_left', binSub_i]
  refine ⟨hi.1, by decide, by decide, by decide, _, inv8 (al.getD 3 0) (List.replicate 6 0) 0 rfl ((Sz.sub Sz.zero (P.sa 3)).le) SzL.zeros (by (first | lia | omega)) rfl, ?_⟩
  refine st_for ?_
  simp only [wpIter, es_tup, List.flatMap_cons, es_const, List.flatMap_nil, List.nil_append, frz_nil, Nat.reduceAdd, wpN_e, e_tup, List.length_cons, List.length_nil, Nat.reduceLeDiff, wpArgs, List.all_cons, ns_const, List.all_nil, Bool.and_true, wpArgs1, asSeq_t, e_const, c_int, true_and]
  refine wpF_idx _ (fun i σ => σ.get (Str.ofString "told") = some (.sh (ql (Tn al dn i))) ∧ σ.get (Str.ofString "along") = some (.own (al.map PyData.int)) ∧ σ.get (Str.ofString "down") = some (.own (dn.map PyData.int)) ∧ σ.get (Str.ofString ".0") = none) ⟨?_, ?_, ?_, ?_⟩ (fun σ h => ?_) fun i d σ hi' hd h' K hK => ?_
  · simp only [gs_hit]
  · simp only [String.reduceBEq, gs_miss, g2]
  · simp only [String.reduceBEq, gs_miss, g3]
  · simp only [String.reduceBEq, gs_miss, g0]
  · obtain ⟨g1, g2, g3, g0⟩ := h
    have g1 : σ.get (Str.ofString "told") = some (.sh (ql (Tn al dn 3))) := g1
    refine st_assign ?_
    simp only [wpVal, String.reduceBEq, es_call, List.flatMap_cons, es_name, es_const, List.flatMap_nil, List.nil_append, List.cons_append, Nat.reduceAdd, wpN_e, e_call, kdOf_at, lk_miss, lk_hit, call_any, bn_law_ways, call_n, wpArgs, List.all_cons, ns_name, ns_const, List.all_nil, Bool.and_true, wpArgs1, e_const, c_int, isVar_at, iv_c, e_var, shName_at, gf_miss, gf_hit, g3, Option.map_some, froze_own, sh_s, iv_l, g2, true_and]
    refine ⟨hw.1, _, hw.2 al dn 8 (by (first | lia | omega)) (by (first | lia | omega)) (by (first | lia | omega)) P.sa P.sd, ?_⟩
    refine st_if ?_
    simp only [es_cmp, frz_nil, Nat.reduceAdd, wpN_t, t_cmp, cmpOk, cmp_ne, Bool.not_eq_eq_eq_not, Bool.not_true, Bool.not_false, rdE_comp, wpN_e, e_comp, wpComp, dot0, String.reduceBEq, gs_miss, gf_miss, g0, plainIter, isTupT, isEnumE, wpIter, bindT, wpTests, e_tup, List.length_cons, List.length_nil, Nat.reduceLeDiff, wpArgs, List.all_cons, ns_name, ns_const, List.all_nil, Bool.and_true, wpArgs1, e_const, c_int, isVar_at, compKd, kdOf_at, List.map_cons, nk_l, lk_miss, List.lookup_nil, Bool.false_and, Bool.false_eq_true, ↓reduceIte, List.map_nil, lk_hit, iv_l, e_var, shName_at, gs_hit, sh_s, true_and, iv_c, asSeq_l, r_var, rdName_at, g1, rd_s, eqD_l, shaped_ql]
    refine ⟨by decide +kernel, fun _ => true, fun d => q1 (unq d), fun d hd => ?_, ?_⟩
    · obtain ⟨x, hx, rfl⟩ := List.mem_map.mp hd
      simp only [forall_const, true_and]
      rfl
    have eW : (((waysL al dn 8).map PyData.int).filter fun _ => true).map (fun d => q1 (unq d)) = (waysL al dn 8).map q1 := by rw [filter_T, List.map_map]; rfl
    rw [eW, ← P.told]
    simp only [shaped_ql, eqv_ql, decide_true, reduceCtorEq, false_implies, forall_const, true_and]
    refine st_nil ?_
    simp only
    rw [P.told]
    have hR := hr.2 al dn (by (first | lia | omega)) (by (first | lia | omega)) P.sa P.sd (by rw [la]; exact fun xs hx => ⟨(P.rows xs hx).1.le, by have := (P.rows xs hx).2; (first | lia | omega)⟩)
    rw [show al.length - 1 = 3 by (first | lia | omega)] at hR
    refine st_par ?_
    simp only [wpVals, List.all_cons, ns_call, ns_const, List.all_nil, Bool.and_true, wpVals1, wpVal, List.flatMap_cons, String.reduceBEq, es_call, es_name, List.flatMap_nil, List.cons_append, List.nil_append, es_const, setAll, canSt_at, kdOf_at, lk_miss, lk_hit, cs_l, ↓reduceIte, Option.some.injEq, Nat.reduceAdd, exists_eq_left', wpN_e, e_const, c_int, e_call, call_any, bn_law_rows, call_n, wpArgs, ns_name, wpArgs1, isVar_at, iv_c, e_var, shName_at, gf_miss, gf_hit, gs_miss, g3, Option.map_some, froze_own, froze_sh, sh_s, iv_l, g2, true_and]
    refine ⟨hr.1, _, hR, ?_⟩
    refine st_for ?_
    simp only [wpIter, isFn, beq_self_eq_true, kdOf_at, String.reduceBEq, lk_miss, lk_hit, Bool.and_true, wpArgs, List.all_cons, ns_const, List.all_nil, wpArgs1, es_call, List.flatMap_cons, es_const, List.flatMap_nil, List.nil_append, frz_nil, Nat.reduceAdd, wpN_e, e_const, c_int, asInt_i, true_and, ofS_beq, String.reduceEq, decide_false, Bool.false_eq_true, false_and, reduceCtorEq, e_call, call_any, or_self, or_false]
    refine ⟨by decide, by decide, ?_⟩
    have lR : (rowsL al dn 3).length = 5 := rowsL_len al dn 3
    have hrow : ∀ i : Nat, i < 5 → pyAt (qll (rowsL al dn 3)) (i : Int) = some (ql (rowAt al dn i)) := fun i hi => by
      rw [pyAt_ql (by (first | lia | omega)) (by rw [lR]; (first | lia | omega))]; rfl
    have srow : ∀ i : Nat, i < 5 → SzL 400 (rowAt al dn i) ∧ (rowAt al dn i).length ≤ 5 := fun i hi => P.rows _ (getD_mem (by rw [lR]; exact hi))
    refine wpF_range _ _ (fun i σ => σ.get (Str.ofString "told") = some (.sh (ql (Tn al dn 3))) ∧ σ.get (Str.ofString "along") = some (.sh (zl al)) ∧ σ.get (Str.ofString "down") = some (.sh (zl dn)) ∧ σ.get (Str.ofString ".0") = none ∧ σ.get (Str.ofString "ways") = some (.sh (zl (waysL al dn 8))) ∧
      σ.get (Str.ofString "rows") = some (.sh (.list (qll (rowsL al dn 3)))) ∧ σ.get (Str.ofString "worth") = some (.sh (.int (worthL dn (i - 1))))) ⟨?_, ?_, ?_, ?_, ?_, ?_, ?_⟩ (fun σ h => ?_) fun i σ hi' h' K hK => ?_
    · simp only [String.reduceBEq, gs_miss, gf_miss, frz_nil, g1]
    · simp only [String.reduceBEq, gs_miss, gf_hit, g2, Option.map_some, froze_own, froze_sh]
    · simp only [String.reduceBEq, gs_miss, gf_miss, gf_hit, g3, Option.map_some, froze_own, froze_sh]
    · simp only [String.reduceBEq, gs_miss, gf_miss, frz_nil, g0]
    · simp only [String.reduceBEq, gs_miss, gf_miss, frz_nil, gs_hit]
    · simp only [String.reduceBEq, gs_miss, gs_hit]
    · simp only [gs_hit, Option.some.injEq, Slot.sh.injEq]
      rfl
    · obtain ⟨g1, g2, g3, g0, g4, g5, g6⟩ := h
      simp only
      refine st_assign ?_
      simp only [wpVal, es_subc, String.reduceBEq, es_call, List.flatMap_cons, es_subn, List.flatMap_nil, List.nil_append, frz_nil, Nat.reduceAdd, wpN_e, e_sub, wpSub, itemD, e_const, c_int, asInt_i, rdE_call, e_call, kdOf_at, lk_miss, lk_hit, call_any, bn_law_rows, call_n, wpArgs, List.all_cons, ns_sub, List.all_nil, Bool.and_true, wpArgs1, wpPart, isVar_at, iv_c, r_var, rdName_at, g3, rd_s, asList_l, sl_lo, Option.some.injEq, exists_eq_left', iv_l, g2, true_and]
      have hA := hr.2 (al.drop 1) (dn.drop 1) (by simp; (first | lia | omega)) (by simp; (first | lia | omega)) ?_ ?_ ?_
      rotate_left
      · intro j
        rw [List.getD_eq_getElem?_getD, List.getElem?_drop, ← List.getD_eq_getElem?_getD]; exact P.sa _
      · intro j
        rw [List.getD_eq_getElem?_getD, List.getElem?_drop, ← List.getD_eq_getElem?_getD]; exact P.sd _
      · rw [show (al.drop 1).length - 1 = 2 by simp; (first | lia | omega)]
        exact fun xs hx => ⟨(P.above xs hx).1.le, by have := (P.above xs hx).2; (first | lia | omega)⟩
      rw [show (al.drop 1).length - 1 = 2 by simp; (first | lia | omega)] at hA
      have lA : (rowsL (al.drop 1) (dn.drop 1) 2).length = 4 := rowsL_len _ _ 2
      have pA : pyAt (qll (rowsL (al.drop 1) (dn.drop 1) 2)) 3 = some (ql (aboveL al dn)) := by
        have := pyAt_ql (rows := rowsL (al.drop 1) (dn.drop 1) 2) (j := 3) (by (first | lia | omega)) (by rw [lA]; (first | lia | omega))
        rw [this]; rfl
      refine ⟨hr.1, _, hA, ?_⟩
      simp only [asSeq_l, pA, Option.some.injEq, exists_eq_left']
      have p4 : pyAt (qll (rowsL al dn 3)) 4 = some (ql (rowAt al dn 4)) := hrow 4 (by (first | lia | omega))
      have r4 := P.r4
      have ra := P.a3
      have s4 := (srow 4 (by (first | lia | omega))).1
      refine st_if ?_
      simp only [es_cmp, frz_nil, Nat.reduceAdd, wpN_t, t_cmp, cmpOk, cmp_ne, Bool.not_eq_eq_eq_not, Bool.not_true, Bool.not_false, rdE_bin, wpN_e, e_bin, wpBinE, bin_add, List.length_cons, List.length_nil, Nat.reduceLeDiff, wpArgs, List.all_cons, ns_tup, List.all_nil, Bool.and_true, wpArgs1, e_const, c_int, asInt_i, e_tup, ns_const, true_and, e_sub, wpSub, wpPart, binAdd_l, e_neg, isVar_at, kdOf_at, String.reduceBEq, lk_miss, lk_hit, iv_l, r_var, rdName_at, gs_hit, rd_s, asList_l, sl_rev, Option.some.injEq, exists_eq_left', rdE_call, e_call, call_any, bn_smul, call_n, ns_name, ns_bin, rdE_sub, itemD, gs_miss, g5, asSeq_l, p4, e_var, shName_at, g1, sh_s]
      have eY : (rowAt al dn 4).reverse.map q1 ++ rep (Int.toNat 3) [PyData.tuple [.int 0, .int 1]] = ((rowAt al dn 4).reverse ++ [0, 0, 0]).map q1 := by rw [List.map_append]; rfl
      have eA : (aboveL al dn).reverse.map q1 ++ rep (Int.toNat 4) [PyData.tuple [.int 0, .int 1]] = ((aboveL al dn).reverse ++ [0, 0, 0, 0]).map q1 := by rw [List.map_append]; rfl
      have n3 : (rep (Int.toNat 3) [PyData.tuple [.int 0, .int 1]]).length = 3 := rfl
      have n4 : (rep (Int.toNat 4) [PyData.tuple [.int 0, .int 1]]).length = 4 := rfl
      rw [eY, eA, n3, n4]
      have lY : ((rowAt al dn 4).reverse ++ [0, 0, 0]).length = 8 := by simp [r4]
      have hS := hs.2 (Tn al dn 3) ((rowAt al dn 4).reverse ++ [0, 0, 0]) (by rw [Tn_len, lY]; decide) (P.sT 3 (by (first | lia | omega))).le ?_ (by rw [Tn_len, lY]; exact P.sC)
      rotate_left
      · intro j
        rcases Nat.lt_or_ge j 5 with q | q
        · rw [List.getD_eq_getElem?_getD, List.getElem?_append_left (by simp [r4]; (first | lia | omega)), List.getElem?_reverse (by (first | lia | omega)), ← List.getD_eq_getElem?_getD]
          exact (s4 _).le
        · rw [List.getD_eq_getElem?_getD, List.getElem?_append_right (by simp [r4]; (first | lia | omega)), ← List.getD_eq_getElem?_getD]
          exact (SzL.zeros (n := 3)) _
      rw [Tn_len, lY, show min 8 8 = 8 by decide, P.cv] at hS
      refine ⟨hs.1, by decide, by decide, by simp [r4], _, hS, by decide, by decide, by simp [ra], ?_⟩
      simp only [eqD_l, shaped_ql, eqv_ql, decide_true, reduceCtorEq, false_implies, forall_const, true_and]
      refine st_nil ?_
      simp only
      refine st_ret ?_
      simp only [es_cmp, frz_nil, wpN_e, e_cmp, cmpOk, cmp_eq, rdE_const, e_const, c_int, rdE_call, e_call, kdOf_at, String.reduceBEq, lk_miss, lk_hit, call_any, bn_count_roots, call_n, wpArgs, List.all_cons, ns_comp, ns_const, List.all_nil, Bool.and_true, wpArgs1, c_str, e_comp, wpComp, dot0, gs_miss, g0, plainIter, isTupT, isEnumE, wpIter, bindT, wpTests, e_sub, wpSub, itemD, asInt_i, isVar_at, compKd, List.map_cons, nk_l, List.lookup_nil, Bool.false_and, Bool.false_eq_true, ↓reduceIte, List.map_nil, iv_l, r_var, rdName_at, gs_hit, rd_s, g5, asSeq_l, p4, Option.some.injEq, exists_eq_left', true_and]
      refine ⟨hcr, by decide +kernel, fun _ => true, fun d => .int (unq d), fun d hd => ?_, ?_⟩
      · obtain ⟨x, hx, rfl⟩ := List.mem_map.mp hd
        simp only [asSeq_t, pyAt_0, Option.some.injEq, exists_eq_left', forall_const, true_and]
        rfl
      have eF : (((rowAt al dn 4).map q1).filter fun _ => true).map (fun d => PyData.int (unq d)) = (rowAt al dn 4).map PyData.int := by rw [filter_T, List.map_map]; rfl
      rw [eF]
      refine ⟨_, hc, ?_⟩
      simp only [eqD_i, decide_true]
    · obtain ⟨g1, g2, g3, g0, g4, g5, g6⟩ := h'
      have hi4 : i < 4 := hi'
      simp only [bindT]
      refine st_assign ?_
      simp only [wpVal, es_ife, frz_nil, Nat.reduceAdd, wpN_e, e_ife, e_bin, wpBinE, bin_mul, e_sub, wpSub, itemD, bin_sub, e_const, c_int, isVar_at, kdOf_at, String.reduceBEq, lk_miss, lk_hit, iv_l, e_var, shName_at, gs_hit, sh_s, binSub_i, asInt_i, iv_c, r_var, rdName_at, gs_miss, g3, rd_s, asSeq_l, g6, wpN_t, t_cmp, cmpOk, cmp_gt, decide_eq_true_eq, decide_eq_false_iff_not, rdE_const, true_and]
      have two : ∀ k : PyData → Prop, k (.int (worthL dn i)) → (0 < (i : Int) → ∃ x, pyAt (dn.map PyData.int) ((i : Int) - 1) = some x ∧ binMul (.int (worthL dn (i - 1))) x k) ∧ (¬ 0 < (i : Int) → k (.int 1)) := fun k hk => by
        refine ⟨fun h0 => ?_, fun h0 => ?_⟩
        · have e := hdnp (i - 1) (by (first | lia | omega))
          refine ⟨.int (dn.getD (i - 1) 0), by rw [show (i : Int) - 1 = ((i - 1 : Nat) : Int) by (first | lia | omega)]; exact e, ?_⟩
          rw [binMul_i]
          refine ⟨(worthL_sz P.sd (i - 1)).fit (by (first | lia | omega)), (P.sd _).fit, ?_⟩
          have : worthL dn i = worthL dn (i - 1) * dn.getD (i - 1) 0 := by
            obtain ⟨m, rfl⟩ : ∃ m, i = m + 1 := ⟨i - 1, by (first | lia | omega)⟩
            rfl
          rw [← this]; exact hk
        · have : i = 0 := by (first | lia | omega)
          subst this; exact hk
      refine two _ ?_
      refine st_for ?_
      simp only [wpIter, isFn, beq_self_eq_true, kdOf_at, String.reduceBEq, lk_miss, lk_hit, Bool.and_true, wpArgs, List.all_cons, ns_bin, List.all_nil, wpArgs1, es_call, List.flatMap_cons, es_bin, es_name, es_const, List.cons_append, List.nil_append, List.flatMap_nil, Nat.reduceAdd, wpN_e, e_bin, wpBinE, bin_add, e_const, c_int, isVar_at, iv_l, e_var, shName_at, gf_hit, gs_miss, gs_hit, Option.map_some, froze_sh, sh_s, binAdd_i, asInt_i, true_and, ofS_beq, String.reduceEq, decide_false, Bool.false_eq_true, false_and, reduceCtorEq, e_call, call_any, or_self, or_false]
      refine ⟨by (first | lia | omega), by (first | lia | omega), ?_⟩
      have hr1 : ((i : Int) + 1).toNat = i + 1 := by (first | lia | omega)
      rw [hr1]
      refine wpF_range _ _ (fun j σ => σ.get (Str.ofString "told") = some (.sh (ql (Tn al dn 3))) ∧ σ.get (Str.ofString "along") = some (.sh (zl al)) ∧ σ.get (Str.ofString "down") = some (.sh (zl dn)) ∧ σ.get (Str.ofString ".0") = none ∧ σ.get (Str.ofString "ways") = some (.sh (zl (waysL al dn 8))) ∧
        σ.get (Str.ofString "rows") = some (.sh (.list (qll (rowsL al dn 3)))) ∧ σ.get (Str.ofString "worth") = some (.sh (.int (worthL dn i))) ∧ σ.get (Str.ofString "one") = some (.sh (.int i))) ⟨?_, ?_, ?_, ?_, ?_, ?_, ?_, ?_⟩ (fun σ h => ?_) fun j σ hj h' K' hK' => ?_
      · simp only [String.reduceBEq, gf_miss, frz_nil, gs_miss, g1]
      · simp only [String.reduceBEq, gf_miss, frz_nil, gs_miss, g2]
      · simp only [String.reduceBEq, gf_miss, frz_nil, gs_miss, g3]
      · simp only [String.reduceBEq, gf_miss, frz_nil, gs_miss, g0]
      · simp only [String.reduceBEq, gf_miss, frz_nil, gs_miss, g4]
      · simp only [String.reduceBEq, gf_miss, frz_nil, gs_miss, g5]
      · simp only [String.reduceBEq, gf_miss, frz_nil, gs_hit]
      · simp only [gf_hit, String.reduceBEq, gs_miss, gs_hit, Option.map_some, froze_sh]
      · obtain ⟨g1, g2, g3, g0, g4, g5, g6, g7⟩ := h
        exact st_nil (hK _ ⟨g1, g2, g3, g0, g4, g5, g6⟩)
      · obtain ⟨g1, g2, g3, g0, g4, g5, g6, g7⟩ := h'
        obtain ⟨s1, l1⟩ := srow i (by (first | lia | omega))
        obtain ⟨s2, l2⟩ := srow j (by (first | lia | omega))
        have l12 : (rowAt al dn i).length * (rowAt al dn j).length ≤ 25 := Nat.mul_le_mul l1 l2
        simp only [bindT]
        refine st_assign ?_
        simp only [wpVal, String.reduceBEq, es_call, List.flatMap_cons, es_subn, List.flatMap_nil, List.nil_append, frz_nil, Nat.reduceAdd, wpN_e, e_call, kdOf_at, lk_miss, lk_hit, call_any, bn_qmul, call_n, wpArgs, List.all_cons, ns_sub, List.all_nil, Bool.and_true, wpArgs1, e_sub, wpSub, itemD, isVar_at, iv_l, e_var, shName_at, gs_hit, sh_s, asInt_i, r_var, rdName_at, gs_miss, g5, rd_s, asSeq_l, hrow j (by (first | lia | omega)), Option.some.injEq, exists_eq_left', g7, hrow i (by (first | lia | omega)), true_and]
        refine ⟨hq.1, _, hq.2 _ _ (s1.le) (s2.le) (by (first | lia | omega)) (by (first | lia | omega)) (by (first | lia | omega)), ?_⟩
        have fP : FitL (mulL (rowAt al dn i) (rowAt al dn j)) := by
          unfold mulL
          split
          · exact (SzL.nil (k := 0)).fit
          · exact (mulO_sz (s1.le) (s2.le) _).fit (by (first | lia | omega))
        have lP := P.rl i j hi4 (by (first | lia | omega))
        have hT := P.total i j hi4 (by (first | lia | omega))
        rw [totalL] at hT
        generalize mulL (rowAt al dn i) (rowAt al dn j) = pr at *
        refine st_assign ?_
        simp only [wpVal, String.reduceBEq, es_call, List.flatMap_cons, es_comp, List.flatMap_nil, List.nil_append, frz_nil, Nat.reduceAdd, wpN_e, e_call, kdOf_at, lk_miss, lk_hit, call_any, bi_sum, call_b, wpBi, wpArgs, List.all_cons, ns_comp, List.all_nil, Bool.and_true, wpArgs1, e_comp, wpComp, dot0, gs_miss, g0, plainIter, isTupT, isEnumE, isFn, beq_self_eq_true, wpIter, ofS_beq, String.reduceEq, decide_false, Bool.false_eq_true, ns_name, bindT, wpTests, e_bin, wpBinE, bin_mul, e_sub, wpSub, itemD, isVar_at, compKd, List.map_cons, nk_l, List.lookup_nil, Bool.false_and, ↓reduceIte, List.map_nil, iv_l, e_var, shName_at, gs_hit, sh_s, iv_c, r_var, rdName_at, g4, rd_s, asSeq_l, e_const, c_int, asInt_i, asList_l, true_and, false_and, reduceCtorEq, and_false, or_false, false_or]
        refine ⟨by decide +kernel, fun _ => true, fun d => match d with | .tuple [.int p, .tuple [.int x, _]] => .int (x * (waysL al dn 8).getD p.toNat 0) | _ => .none, fun d hd => ?_, ?_⟩
        · obtain ⟨p, hp, rfl⟩ := enum_mem hd
          have pw : pyAt ((waysL al dn 8).map PyData.int) (p : Int) = some (.int ((waysL al dn 8).getD p 0)) := pyAt_map (by (first | lia | omega)) (by simp [waysL]; (first | lia | omega))
          simp only [forall_const, true_and, asTup_t, asInt_i, pw, Option.some.injEq, exists_eq_left', asSeq_t, pyAt_0, binMul_i]
          refine ⟨fP p, ?_⟩
          have : (waysL al dn 8).getD p 0 = (highL al dn p).getD 0 0 := by rw [waysL, range_getD, if_pos (by (first | lia | omega))]
          rw [this]
          exact ⟨(highL_sz P.sa P.sd p 0).fit (by (first | lia | omega)), by rw [toNat_ofNat, this]⟩
        · rw [filter_T, enum_map (h := fun p => .int (pr.getD p 0 * (waysL al dn 8).getD p 0)) (fun p _ => rfl)]
          refine ⟨(List.range pr.length).map fun p => pr.getD p 0 * (waysL al dn 8).getD p 0, by rw [List.map_map]; rfl, ?_⟩
          rw [hT]
          refine st_if ?_
          simp only [es_cmp, frz_nil, Nat.reduceAdd, wpN_t, t_cmp, cmpOk, cmp_ne, Bool.not_eq_eq_eq_not, Bool.not_true, Bool.not_false, rdE_ife, wpN_e, e_ife, isVar_at, kdOf_at, String.reduceBEq, lk_miss, lk_hit, iv_l, e_var, shName_at, gs_miss, g6, sh_s, e_const, c_int, cmp_eq, r_var, rdName_at, gs_hit, rd_s, g7, eqD_i, decide_eq_true_eq, decide_eq_false_iff_not, true_and]
          refine ⟨fun h => ?_, fun h => ?_⟩
          · rw [if_pos (by (first | lia | omega))]
            refine ⟨fun q => absurd rfl q, fun _ => st_nil ?_⟩
            simp only
            exact st_nil (hK' _ (by simp only [String.reduceBEq, gs_miss, g1, g2, g3, g0, g4, g5, g6, g7, and_self]))
          · rw [if_neg (by (first | lia | omega))]
            refine ⟨fun q => absurd rfl q, fun _ => st_nil ?_⟩
            simp only
            exact st_nil (hK' _ (by simp only [String.reduceBEq, gs_miss, g1, g2, g3, g0, g4, g5, g6, g7, and_self]))
  · obtain ⟨g1, g2, g3, g0⟩ := h'
    obtain ⟨hi3, rfl⟩ : i < 3 ∧ d = .int ((2 - i : Nat) : Int) := by
      match i, hd with
      | 0, hd => cases hd; exact ⟨by (first | lia | omega), rfl⟩
      | 1, hd => cases hd; exact ⟨by (first | lia | omega), rfl⟩
      | 2, hd => cases hd; exact ⟨by (first | lia | omega), rfl⟩
      | i + 3, hd => simp at hd
    have p1 := hdnp (2 - i) (by (first | lia | omega))
    have p2 := halp (2 - i) (by (first | lia | omega))
    simp only [bindT]
    refine st_comp ?_
    simp only [wpComp, dot0, String.reduceBEq, gs_miss, g0, plainIter, isTupT, isEnumE, wpIter, bindT, wpTests, wpN_e, e_call, compKd, kdOf_at, List.map_cons, nk_l, lk_miss, List.lookup_nil, Bool.false_and, Bool.false_eq_true, ↓reduceIte, nk_g, beq_self_eq_true, lk_hit, Bool.and_true, List.map_nil, call_any, bn_rmul, call_n, wpArgs, List.all_cons, ns_tup, ns_name, List.all_nil, wpArgs1, isVar_at, iv_l, e_var, shName_at, gs_hit, sh_s, e_tup, List.length_cons, List.length_nil, Nat.reduceAdd, Nat.reduceLeDiff, ns_bin, ns_const, e_const, c_int, e_bin, wpBinE, bin_sub, e_sub, wpSub, itemD, iv_c, asInt_i, r_var, rdName_at, g3, rd_o, asSeq_l, true_and, wpPart, g1, rd_s, asList_l, sl_hi (n := 6) (i := 6) rfl, Option.some.injEq, exists_eq_left']
    refine ⟨by decide +kernel, fun _ => true, fun d => q1 ((0 - dn.getD (2 - i) 0) * unq d), fun d hd => ?_, ?_⟩
    · obtain ⟨x, hx, rfl⟩ := List.mem_map.mp hd
      simp only [p1, Option.some.injEq, exists_eq_left', binSub_i, forall_const, true_and]
      have hxT : Sz 64 x := by
        obtain ⟨j, hj⟩ := List.mem_iff_getElem?.mp (List.mem_of_mem_take hx)
        have := P.sT i (by (first | lia | omega)) j
        rwa [List.getD_eq_getElem?_getD, hj] at this
      exact ⟨hm.1, _, hm.2 _ _ (Sz.sub Sz.zero (P.sd (2 - i))).fit hxT.fit, rfl⟩
    have eL : ((((Tn al dn i).take 6).map q1).filter fun _ => true).map (fun d => q1 ((0 - dn.getD (2 - i) 0) * unq d)) = (lowL (dn.getD (2 - i) 0) (Tn al dn i)).map q1 := by rw [filter_T, lowL, List.map_map, List.map_map]; rfl
    rw [eL]
    refine st_assign ?_
    simp only [wpVal, String.reduceBEq, es_call, List.flatMap_cons, es_bin, es_list, es_tup, es_const, List.flatMap_nil, List.nil_append, es_subn, es_name, List.cons_append, Nat.reduceAdd, wpN_e, e_call, kdOf_at, lk_miss, lk_hit, call_any, bn_sinverse, call_n, wpArgs, List.all_cons, ns_bin, List.all_nil, Bool.and_true, wpArgs1, e_bin, wpBinE, bin_add, isVar_at, iv_l, e_var, shName_at, gf_hit, gs_hit, Option.map_some, froze_sh, sh_s, e_list, List.length_cons, List.length_nil, Nat.reduceLeDiff, ns_tup, binAdd_l, e_tup, ns_const, e_const, c_int, bin_sub, e_sub, wpSub, itemD, iv_c, gf_miss, frz_nil, gs_miss, asInt_i, r_var, rdName_at, g2, rd_o, asSeq_l, p2, Option.some.injEq, exists_eq_left', binSub_i, true_and]
    have l6 : (lowL (dn.getD (2 - i) 0) (Tn al dn i)).length = 6 := by simp [lowL, Tn_len]
    refine ⟨hi.1, by rw [List.length_map, l6]; decide, _, inv8 (al.getD (2 - i) 0) _ (i + 1) l6 ((Sz.sub Sz.zero (P.sa _)).le) ?_ (by (first | lia | omega)) rfl, st_nil (hK _ ⟨?_, ?_, ?_, ?_⟩)⟩
    · intro j
      unfold lowL
      rw [List.getD_eq_getElem?_getD, List.getElem?_map, List.getElem?_take]
      split
      · have hT := P.sT i (by (first | lia | omega)) j
        rw [List.getD_eq_getElem?_getD] at hT
        cases q : (Tn al dn i)[j]? with
        | none => exact Sz.zero
        | some x =>
          rw [q] at hT
          exact ((Sz.mul (Sz.sub Sz.zero (P.sd (2 - i))) hT).le)
      · exact Sz.zero
    · simp only [gs_hit]
    · simp only [String.reduceBEq, gs_miss, gf_miss, frz_nil, g2]
    · simp only [String.reduceBEq, gs_miss, gf_miss, frz_nil, g3]
    · simp only [String.reduceBEq, gs_miss, gf_miss, frz_nil, g0]
end Mine
end
section
open PySem PySem.W PyProof.Rows PySem.Spec PySem.Calls
namespace Mine
noncomputable def adK (K : Frag) (x : Str) : Addr := match nsIn K mainGlobals x with
  | some (some (.ref a)) => a
  | _ => 0
noncomputable def fnIn (K : Frag) (a : Addr) : Option FuncData := match K.lookup a with
  | some ⟨_, _, .func fd, _⟩ => some fd
  | _ => none
noncomputable def fdK (K : Frag) (x : Str) : FuncData := match fnIn K (adK K x) with
  | some fd => fd
  | none => { name := x, qualname := x, params := ⟨[], [], none, [], [], none, []⟩, body := .stmts [], scope := ⟨.function, [], false, false, []⟩, globals := 0, closure := [], defaults := .none, kwdefaults := .none }
noncomputable def codeQ (K : Frag) (cd : Value) : Option Str := match cd with
  | .ref c => (match K.lookup c with
    | some ⟨_, _, .fields vs, _⟩ => (match (vs[1]? : Option Value) with
      | some (.str q _) => some q
      | _ => none)
    | _ => none)
  | _ => none
noncomputable def Fk (k : Nat) : Fn := match fnAt k with
  | some F => F
  | none => ⟨Str.ofString "", [], ⟨.function, [], false, false, []⟩, []⟩
noncomputable def scopeOK (sc : Scope) (params : List Str) : Bool :=
  sc.kind == .function && !sc.isCoroutine && !sc.isGenerator && params.all (fun x => sc.names.lookup x == some .local || sc.names.lookup x == some .cell) && decide params.Nodup && sc.names.all (fun y => y.2 != .free && !Mine.dbg y.1)
/-- what is read off the top of a def -/
structure FnFacts (K : Frag) (x : Str) (k : Nat) : Prop where
  ns : nsIn K mainGlobals x = some (some (.ref (adK K x)))
  fn : fnIn K (adK K x) = some (fdK K x)
  code : codeQ K (fdK K x).code = some (fdK K x).qualname
  body : (fdK K x).body = .stmts (Fk k).body
  clo : (fdK K x).closure = []
  glob : (fdK K x).globals = mainGlobals
  bi : (fdK K x).builtins = builtinsNs
  sc : (fdK K x).scope = (Fk k).scope
  at_ : fnAt k = some (Fk k)
  ok : scopeOK (Fk k).scope (Fk k).params = true
  bind : ∀ vs : List Value, vs.length = (Fk k).params.length → bindArgs (fdK K x) ⟨vs, []⟩ = pure ((Fk k).params.zip vs)
theorem defAt_of {K : Frag} {h : Heap} {x : Str} {k : Nat} (X : K.In h) (F : FnFacts K x k) : DefAt h (adK K x) (Fk k).params (Fk k).scope (Fk k).body := by
  have ok := F.ok
  simp only [scopeOK, Bool.and_eq_true, List.all_eq_true, Bool.or_eq_true, beq_iff_eq, bne_iff_ne, Bool.not_eq_true', decide_eq_true_eq] at ok
  obtain ⟨⟨⟨⟨⟨o1, o2⟩, o3⟩, o4⟩, o5⟩, o6⟩ := ok
  have hf := F.fn
  unfold fnIn at hf
  split at hf
  · rename_i c d fd sl hl
    have hc := F.code
    unfold codeQ at hc
    split at hc
    · rename_i cd hcd
      split at hc
      · rename_i c' d' vs sl' hl'
        split at hc
        · rename_i q t hv
          cases hf
          refine ⟨⟨_, _, X _ _ hl, rfl, ⟨cd, _, vs, t, hcd, X _ _ hl', rfl, ?_⟩, F.body, F.clo, F.glob, F.bi, F.sc, F.bind⟩, o1, o2, o3, o4, o5, fun y hy => (o6 y hy).1, fun y hy => (o6 y hy).2⟩
          rw [hv]
          cases hc
          rfl
        · cases hc
      · cases hc
    · cases hc
  · cases hf
section
variable {prog : Program} {w : World} {hB : Heap} {ad : Str → Addr} {K : Frag} {p : Program} {loose : List Str} {mg mb : Str → Option Value}
theorem gname_K (X : K.In hB) (T : TopRead p loose mg mb hB) {x : Str} {v : Value} (e : nsIn K mainGlobals x = some (some v)) : GName prog w hB x v := fun env s A Q E hk hg hb hx ext hQ => by
  unfold loadName
  simp only [Env.blockKind, hk, hx, ScopeKind.isAnnotationScope, Bool.false_and, Bool.false_eq_true, if_false]
  refine loadGlobal_global ?_ (mg_of X T.g e) hQ
  rw [hg]; exact T.g.keeps ext
theorem gname_B (X : K.In hB) (T : TopRead p loose mg mb hB) {x : Str} {v : Value} (e : nsIn K mainGlobals x = some none) (hv : bootBuiltins x = some v) (hn : x ≠ "__name__") : GName prog w hB x v := fun env s A Q E hk hg hb hx ext hQ => by
  unfold loadName
  simp only [Env.blockKind, hk, hx, ScopeKind.isAnnotationScope, Bool.false_and, Bool.false_eq_true, if_false]
  refine loadGlobal_builtin ?_ (mg_none_of X T.g e) ?_ ((T.builtins x hn).trans hv) hQ
  · rw [hg]; exact T.g.keeps ext
  · rw [hb]; exact T.b.keeps ext
theorem isDef_K (X : K.In hB) (T : TopRead p loose mg mb hB) {x : Str} {k : Nat} (F : FnFacts K x k) : IsDef prog w hB x (adK K x) := by
  refine ⟨gname_K X T F.ns, ?_⟩
  have hf := F.fn
  unfold fnIn at hf
  split at hf
  · rename_i c d fd sl hl
    cases hf
    exact ⟨_, _, X _ _ hl, rfl⟩
  · cases hf
theorem lift (B : Base prog w hB) (X : K.In hB) {x : Str} {k n : Nat} {ds : List PyData} {d : PyData} (F : FnFacts K x k) (g : Gives (semC prog w hB (adK K) n) k ds d) : CallAt prog w hB (n + 2) (adK K x) ds d := by
  obtain ⟨F', hF, hl, h⟩ := g
  rw [F.at_] at hF
  cases hF
  exact fun_sound (f := x) (ad := adK K) B (defAt_of X F) hl h
theorem lifts {m : Nat} (B : Base prog w hB) (X : K.In hB) {x : Str} {k n : Nat} {ds : List PyData} {d : PyData} (F : FnFacts K x k) (g : Gives (semC prog w hB (adK K) n) k ds d) (h : n + 2 ≤ m) : (semC prog w hB (adK K) m).call x ds d := (lift B X F g).mono h
theorem mlift {m : Nat} (B : Base prog w hB) (X : K.In hB) {x : Str} {k n : Nat} {xs ds xs' : List PyData} {v : Int} (F : FnFacts K x k) (g : MGives (semC prog w hB (adK K) n) k xs ds v xs') (h : n + 2 ≤ m) : (semC prog w hB (adK K) m).mcall x xs ds (.int v) xs' := by
  obtain ⟨F', p, y, ps, e1, e2, i, rest, hF, M, hl, h'⟩ := g
  rw [F.at_] at hF
  cases hF
  have D := defAt_of X F
  obtain ⟨q0, q1, q2, q3, q4, hb⟩ := M.body
  rw [M.par, hb] at D
  exact (mfun_sound (f := x) (ad := adK K) B D hl M.hx M.hp M.ne M.c1 M.c2 h').mono h
end
end Mine
end
section
open PySem PySem.W PyProof.Rows PySem.Spec PySem.Calls
namespace Mine
noncomputable def tupIn (K : Frag) (a : Addr) : Option (Value × Int × Int) := match K.lookup a with
  | some ⟨c, _, .seq vs _, _⟩ => (match vs.toList with
    | [.int x _, .int y _] => some (c, x, y)
    | _ => none)
  | _ => none
structure TopFacts (K : Frag) : Prop where
  gcd : FnFacts K (Str.ofString "gcd") 3
  gcdall : FnFacts K (Str.ofString "gcd_all") 5
  rat : FnFacts K (Str.ofString "rat") 10
  radd : FnFacts K (Str.ofString "radd") 11
  rsub : FnFacts K (Str.ofString "rsub") 12
  rmul : FnFacts K (Str.ofString "rmul") 13
  rdiv : FnFacts K (Str.ofString "rdiv") 14
  rneg : FnFacts K (Str.ofString "rneg") 15
  vast : FnFacts K (Str.ofString "is_vast") 16
  let_ : FnFacts K (Str.ofString "let") 18
  mixed : FnFacts K (Str.ofString "mixed") 19
  smul : FnFacts K (Str.ofString "smul") 20
  inv : FnFacts K (Str.ofString "sinverse") 21
  qtrim : FnFacts K (Str.ofString "qtrim") 23
  qadd : FnFacts K (Str.ofString "qadd") 24
  qneg : FnFacts K (Str.ofString "qneg") 25
  qsub : FnFacts K (Str.ofString "qsub") 26
  qscale : FnFacts K (Str.ofString "qscale") 27
  qmul : FnFacts K (Str.ofString "qmul") 28
  ztrim : FnFacts K (Str.ofString "ztrim") 30
  zdeg : FnFacts K (Str.ofString "zdegree") 31
  zlead : FnFacts K (Str.ofString "zlead") 32
  zadd : FnFacts K (Str.ofString "zadd") 33
  zneg : FnFacts K (Str.ofString "zneg") 34
  zsub : FnFacts K (Str.ofString "zsub") 35
  zscale : FnFacts K (Str.ofString "zscale") 36
  zraise : FnFacts K (Str.ofString "zraise") 37
  zcontent : FnFacts K (Str.ofString "zcontent") 38
  zdivided : FnFacts K (Str.ofString "zdivided") 39
  zprim : FnFacts K (Str.ofString "zprimitive") 40
  zderive : FnFacts K (Str.ofString "zderive") 41
  check : FnFacts K (Str.ofString "check_bottom") 43
  pseudo : FnFacts K (Str.ofString "pseudo") 45
  rest : FnFacts K (Str.ofString "zpseudo_rest") 46
  next : FnFacts K (Str.ofString "next_height") 48
  subr : FnFacts K (Str.ofString "subresultants") 49
  zgcd : FnFacts K (Str.ofString "zgcd") 50
  sign : FnFacts K (Str.ofString "sign_of") 52
  end_ : FnFacts K (Str.ofString "end_sign") 54
  signat : FnFacts K (Str.ofString "sign_at") 55
  simple : FnFacts K (Str.ofString "simple_part") 56
  less : FnFacts K (Str.ofString "lessened") 57
  nextrow : FnFacts K (Str.ofString "next_of_row") 58
  sturm : FnFacts K (Str.ofString "sturm_row") 59
  changes : FnFacts K (Str.ofString "changes_at") 60
  count : FnFacts K (Str.ofString "count_by_row") 61
  roots : FnFacts K (Str.ofString "count_roots") 62
  draw : FnFacts K (Str.ofString "_law_draw") 64
  rows : FnFacts K (Str.ofString "_law_rows") 65
  ways : FnFacts K (Str.ofString "_law_ways") 66
  law : FnFacts K (Str.ofString "law") 67
  R0n : nsIn K mainGlobals (Str.ofString "R0") = some (some (.ref (adK K (Str.ofString "R0"))))
  R0t : tupIn K (adK K (Str.ofString "R0")) = some (.type "tuple", 0, 1)
  R1n : nsIn K mainGlobals (Str.ofString "R1") = some (some (.ref (adK K (Str.ofString "R1"))))
  R1t : tupIn K (adK K (Str.ofString "R1")) = some (.type "tuple", 1, 1)
  b_len : nsIn K mainGlobals (Str.ofString "len") = some none
  b_abs : nsIn K mainGlobals (Str.ofString "abs") = some none
  b_max : nsIn K mainGlobals (Str.ofString "max") = some none
  b_min : nsIn K mainGlobals (Str.ofString "min") = some none
  b_list : nsIn K mainGlobals (Str.ofString "list") = some none
  b_sum : nsIn K mainGlobals (Str.ofString "sum") = some none
  b_isinstance : nsIn K mainGlobals (Str.ofString "isinstance") = some none
  b_int : nsIn K mainGlobals (Str.ofString "int") = some none
  b_range : nsIn K mainGlobals (Str.ofString "range") = some none
  b_enumerate : nsIn K mainGlobals (Str.ofString "enumerate") = some none
  b_str : nsIn K mainGlobals (Str.ofString "str") = some none
theorem rd_tup {K : Frag} {h : Heap} (X : K.In h) {a : Addr} {x y : Int} (e : tupIn K a = some (.type "tuple", x, y)) : Rd (fun b => h.get? b) (.ref a) (.tuple [.int x, .int y]) := by
  unfold tupIn at e
  split at e
  · rename_i c d vs n sl hl
    split at e
    · rename_i x' t y' t' hv
      simp only [Option.some.injEq, Prod.mk.injEq] at e
      obtain ⟨hc, rfl, rfl⟩ := e
      subst hc
      refine .tuple (X _ _ hl) rfl rfl ?_ ?_
      · have := congrArg List.length hv
        simp at this
        (first | lia | omega)
      · rw [hv]; exact .cons (.int _ _) (.cons (.int _ _) .nil)
    · cases e
  · cases e
section
variable {prog : Program} {w : World} {hB : Heap} {K : Frag} {p : Program} {loose : List Str} {mg mb : Str → Option Value}
theorem base_of (X : K.In hB) (T : TopRead p loose mg mb hB) (hs : hB.NoSeer) (F : TopFacts K) : Base prog w hB where
  nolim := T.nolimit
  noseer := hs
  bi := fun f b h => by
    unfold biOf at h
    repeat' split at h
    all_goals first | cases h | skip
    all_goals subst_vars
    · exact gname_B X T F.b_len (by decide +kernel) (by decide +kernel)
    · exact gname_B X T F.b_abs (by decide +kernel) (by decide +kernel)
    · exact gname_B X T F.b_max (by decide +kernel) (by decide +kernel)
    · exact gname_B X T F.b_min (by decide +kernel) (by decide +kernel)
    · exact gname_B X T F.b_list (by decide +kernel) (by decide +kernel)
    · exact gname_B X T F.b_sum (by decide +kernel) (by decide +kernel)
    · exact gname_B X T F.b_isinstance (by decide +kernel) (by decide +kernel)
    · exact gname_B X T F.b_int (by decide +kernel) (by decide +kernel)
  range := gname_B X T F.b_range (by decide +kernel) (by decide +kernel)
  enum := gname_B X T F.b_enumerate (by decide +kernel) (by decide +kernel)
  str := gname_B X T F.b_str (by decide +kernel) (by decide +kernel)
section
variable (B : Base prog w hB) (X : K.In hB) (T : TopRead p loose mg mb hB) (F : TopFacts K)
include B X T F
theorem c_R0 (n : Nat) : HasR0 (semC prog w hB (adK K) n) := ⟨.ref (adK K (Str.ofString "R0")), gname_K X T F.R0n, rd_tup X F.R0t⟩
theorem c_R1 (n : Nat) : HasR1 (semC prog w hB (adK K) n) := ⟨.ref (adK K (Str.ofString "R1")), gname_K X T F.R1n, rd_tup X F.R1t⟩
theorem c_gcd (m : Nat) (h : 2 ≤ m) : HasGcd (semC prog w hB (adK K) m) := ⟨isDef_K X T F.gcd, fun a b => lifts B X F.gcd (n := 0) (gcd_gives _ a b) h⟩
theorem c_gcdall (m : Nat) (h : 4 ≤ m) : HasGcdAll (semC prog w hB (adK K) m) := ⟨isDef_K X T F.gcdall, fun xs => lifts B X F.gcdall (n := 2) (gcdAll_gives _ (c_gcd B X T F 2 (by decide)) xs) h⟩
theorem c_rat (m : Nat) (h : 4 ≤ m) : HasRat (semC prog w hB (adK K) m) := ⟨isDef_K X T F.rat, fun a => lifts B X F.rat (n := 2) (rat_gives _ (c_gcd B X T F 2 (by decide)) a) h⟩
theorem c_radd (m : Nat) (h : 6 ≤ m) : HasBin (semC prog w hB (adK K) m) "radd" (· + ·) := ⟨isDef_K X T F.radd, fun a b ha hb => lifts B X F.radd (n := 4) (radd_gives _ (c_rat B X T F 4 (by decide)) a b ha hb) h⟩
theorem c_rsub (m : Nat) (h : 6 ≤ m) : HasBin (semC prog w hB (adK K) m) "rsub" (· - ·) := ⟨isDef_K X T F.rsub, fun a b ha hb => lifts B X F.rsub (n := 4) (rsub_gives _ (c_rat B X T F 4 (by decide)) a b ha hb) h⟩
theorem c_rmul (m : Nat) (h : 6 ≤ m) : HasBin (semC prog w hB (adK K) m) "rmul" (· * ·) := ⟨isDef_K X T F.rmul, fun a b ha hb => lifts B X F.rmul (n := 4) (rmul_gives _ (c_rat B X T F 4 (by decide)) a b ha hb) h⟩
theorem c_rdiv (m : Nat) (h : 6 ≤ m) : HasRdiv (semC prog w hB (adK K) m) := ⟨isDef_K X T F.rdiv, fun a ha => lifts B X F.rdiv (n := 4) (rdiv_gives _ (c_rat B X T F 4 (by decide)) a ha) h⟩
theorem c_rneg (m : Nat) (h : 2 ≤ m) : HasRneg (semC prog w hB (adK K) m) := ⟨isDef_K X T F.rneg, fun a => lifts B X F.rneg (n := 0) (rneg_gives _ a) h⟩
theorem c_vast (m : Nat) (h : 2 ≤ m) : HasVast (semC prog w hB (adK K) m) := ⟨isDef_K X T F.vast, fun a ha => lifts B X F.vast (n := 0) (vast_gives _ a ha) h⟩
theorem c_let_ (m : Nat) (h : 4 ≤ m) : HasLet (semC prog w hB (adK K) m) := ⟨isDef_K X T F.let_, fun a ha => lifts B X F.let_ (n := 2) (let_gives _ (c_vast B X T F 2 (by decide)) a ha) h⟩
theorem c_mixed (m : Nat) (h : 8 ≤ m) : HasMixed (semC prog w hB (adK K) m) := ⟨isDef_K X T F.mixed, fun xs ys n h1 h2 h3 h4 h5 => lifts B X F.mixed (n := 6) (mixed_gives _ (c_R0 B X T F 6) (c_radd B X T F 6 (by decide)) (c_rmul B X T F 6 (by decide)) xs ys n h1 h2 h3 h4 h5) h⟩
theorem c_smul (m : Nat) (h : 10 ≤ m) : HasSmul (semC prog w hB (adK K) m) := ⟨isDef_K X T F.smul, fun xs ys h1 h2 h3 h4 => lifts B X F.smul (n := 8) (smul_gives _ (c_let_ B X T F 8 (by decide)) (c_mixed B X T F 8 (by decide)) xs ys h1 h2 h3 h4) h⟩
theorem c_inv (m : Nat) (h : 8 ≤ m) : HasInv (semC prog w hB (adK K) m) := ⟨isDef_K X T F.inv, fun xs h1 h2 h3 h4 => lifts B X F.inv (n := 6) (inv_gives _ (c_R0 B X T F 6) (c_R1 B X T F 6) (c_let_ B X T F 6 (by decide)) (c_rsub B X T F 6 (by decide)) (c_rmul B X T F 6 (by decide)) (c_rdiv B X T F 6 (by decide)) xs h1 h2 h3 h4) h⟩
theorem c_qtrim (m : Nat) (h : 2 ≤ m) : HasQtrim (semC prog w hB (adK K) m) := ⟨isDef_K X T F.qtrim, fun xs => lifts B X F.qtrim (n := 0) (qtrim_gives _ xs) h⟩
theorem c_qadd (m : Nat) (h : 8 ≤ m) : HasQadd (semC prog w hB (adK K) m) := ⟨isDef_K X T F.qadd, fun xs ys h1 h2 h3 h4 => lifts B X F.qadd (n := 6) (qadd_gives _ (c_R0 B X T F 6) (c_qtrim B X T F 6 (by decide)) (c_radd B X T F 6 (by decide)) xs ys h1 h2 h3 h4) h⟩
theorem c_qneg (m : Nat) (h : 4 ≤ m) : HasQneg (semC prog w hB (adK K) m) := ⟨isDef_K X T F.qneg, fun xs => lifts B X F.qneg (n := 2) (qneg_gives _ (c_rneg B X T F 2 (by decide)) xs) h⟩
theorem c_qsub (m : Nat) (h : 10 ≤ m) : HasQsub (semC prog w hB (adK K) m) := ⟨isDef_K X T F.qsub, fun xs ys h1 h2 h3 h4 => lifts B X F.qsub (n := 8) (qsub_gives _ (c_qneg B X T F 8 (by decide)) (c_qadd B X T F 8 (by decide)) xs ys h1 h2 h3 h4) h⟩
theorem c_qscale (m : Nat) (h : 8 ≤ m) : HasQscale (semC prog w hB (adK K) m) := ⟨isDef_K X T F.qscale, fun xs r h1 h2 => lifts B X F.qscale (n := 6) (qscale_gives _ (c_rmul B X T F 6 (by decide)) xs r h1 h2) h⟩
theorem c_qmul (m : Nat) (h : 8 ≤ m) : HasQmul (semC prog w hB (adK K) m) := ⟨isDef_K X T F.qmul, fun xs ys h1 h2 h3 h4 h5 => lifts B X F.qmul (n := 6) (qmul_gives _ (c_R0 B X T F 6) (c_radd B X T F 6 (by decide)) (c_rmul B X T F 6 (by decide)) xs ys h1 h2 h3 h4 h5) h⟩
theorem c_ztrim (m : Nat) (h : 2 ≤ m) : HasZtrim (semC prog w hB (adK K) m) := ⟨isDef_K X T F.ztrim, fun xs => lifts B X F.ztrim (n := 0) (ztrim_gives _ xs) h⟩
theorem c_zdeg (m : Nat) (h : 2 ≤ m) : HasZdeg (semC prog w hB (adK K) m) := ⟨isDef_K X T F.zdeg, fun xs => lifts B X F.zdeg (n := 0) (zdeg_gives _ xs) h⟩
theorem c_zlead (m : Nat) (h : 2 ≤ m) : HasZlead (semC prog w hB (adK K) m) := ⟨isDef_K X T F.zlead, fun xs => lifts B X F.zlead (n := 0) (zlead_gives _ xs) h⟩
theorem c_zadd (m : Nat) (h : 4 ≤ m) : HasZadd (semC prog w hB (adK K) m) := ⟨isDef_K X T F.zadd, fun xs ys h1 h2 => lifts B X F.zadd (n := 2) (zadd_gives _ (c_ztrim B X T F 2 (by decide)) xs ys h1 h2) h⟩
theorem c_zneg (m : Nat) (h : 2 ≤ m) : HasZneg (semC prog w hB (adK K) m) := ⟨isDef_K X T F.zneg, fun xs => lifts B X F.zneg (n := 0) (zneg_gives _ xs) h⟩
theorem c_zsub (m : Nat) (h : 6 ≤ m) : HasZsub (semC prog w hB (adK K) m) := ⟨isDef_K X T F.zsub, fun xs ys h1 h2 => lifts B X F.zsub (n := 4) (zsub_gives _ (c_zneg B X T F 4 (by decide)) (c_zadd B X T F 4 (by decide)) xs ys h1 h2) h⟩
theorem c_zscale (m : Nat) (h : 2 ≤ m) : HasZscale (semC prog w hB (adK K) m) := ⟨isDef_K X T F.zscale, fun xs r h1 h2 => lifts B X F.zscale (n := 0) (zscale_gives _ xs r h1 h2) h⟩
theorem c_zraise (m : Nat) (h : 2 ≤ m) : HasZraise (semC prog w hB (adK K) m) := ⟨isDef_K X T F.zraise, fun xs n h1 h2 => lifts B X F.zraise (n := 0) (zraise_gives _ xs n h1 h2) h⟩
theorem c_zcontent (m : Nat) (h : 6 ≤ m) : HasZcontent (semC prog w hB (adK K) m) := ⟨isDef_K X T F.zcontent, fun xs => lifts B X F.zcontent (n := 4) (zcontent_gives _ (c_gcdall B X T F 4 (by decide)) xs) h⟩
theorem c_zdivided (m : Nat) (h : 2 ≤ m) : HasZdivided (semC prog w hB (adK K) m) := ⟨isDef_K X T F.zdivided, fun xs k h1 h2 => lifts B X F.zdivided (n := 0) (zdivided_gives _ xs k h1 h2) h⟩
theorem c_zprim (m : Nat) (h : 8 ≤ m) : HasZprim (semC prog w hB (adK K) m) := ⟨isDef_K X T F.zprim, fun xs h1 => lifts B X F.zprim (n := 6) (zprim_gives _ (c_zcontent B X T F 6 (by decide)) (c_zdivided B X T F 6 (by decide)) xs h1) h⟩
theorem c_zderive (m : Nat) (h : 2 ≤ m) : HasZderive (semC prog w hB (adK K) m) := ⟨isDef_K X T F.zderive, fun xs h1 h2 => lifts B X F.zderive (n := 0) (zderive_gives _ xs h1 h2) h⟩
theorem c_check (m : Nat) (h : 2 ≤ m) : HasCheck (semC prog w hB (adK K) m) := ⟨isDef_K X T F.check, fun xs h1 => lifts B X F.check (n := 0) (check_gives _ xs h1) h⟩
theorem c_pseudo (m : Nat) (h : 8 ≤ m) : HasPseudo (semC prog w hB (adK K) m) := ⟨isDef_K X T F.pseudo, fun a b h1 h2 h3 h4 h5 h6 => lifts B X F.pseudo (n := 6) (pseudo_gives _ (c_check B X T F 6 (by decide)) (c_zlead B X T F 6 (by decide)) (c_zsub B X T F 6 (by decide)) (c_zscale B X T F 6 (by decide)) (c_zraise B X T F 6 (by decide)) a b h1 h2 h3 h4 h5 h6) h⟩
theorem c_rest (m : Nat) (h : 10 ≤ m) : HasRest (semC prog w hB (adK K) m) := ⟨isDef_K X T F.rest, fun a b h1 h2 h3 h4 h5 h6 => lifts B X F.rest (n := 8) (rest_gives _ (c_pseudo B X T F 8 (by decide)) a b h1 h2 h3 h4 h5 h6) h⟩
theorem c_next (m : Nat) (h : 2 ≤ m) : HasNext (semC prog w hB (adK K) m) := ⟨isDef_K X T F.next, fun x y h1 h2 => lifts B X F.next (n := 0) (next_gives _ x y h1 h2) h⟩
theorem c_subr (m : Nat) (h : 12 ≤ m) : HasSubr (semC prog w hB (adK K) m) := ⟨isDef_K X T F.subr, fun a b r h1 h2 h3 => lifts B X F.subr (n := 10) (subr_gives _ (c_rest B X T F 10 (by decide)) (c_zdivided B X T F 10 (by decide)) (c_zlead B X T F 10 (by decide)) (c_next B X T F 10 (by decide)) a b r h1 h2 h3) h⟩
theorem c_zgcd (m : Nat) (h : 14 ≤ m) : HasZgcd (semC prog w hB (adK K) m) := ⟨isDef_K X T F.zgcd, fun a b r c h1 h2 h3 h4 h5 h6 h7 h8 h9 h10 h11 => lifts B X F.zgcd (n := 12) (zgcd_gives _ (c_zprim B X T F 12 (by decide)) (c_zcontent B X T F 12 (by decide)) (c_gcd B X T F 12 (by decide)) (c_subr B X T F 12 (by decide)) a b r c h1 h2 h3 h4 h5 h6 h7 h8 h9 h10 h11) h⟩
theorem c_sign (m : Nat) (h : 2 ≤ m) : HasSign (semC prog w hB (adK K) m) := ⟨isDef_K X T F.sign, fun x => lifts B X F.sign (n := 0) (sign_gives _ x) h⟩
theorem c_less (m : Nat) (h : 8 ≤ m) : HasLess (semC prog w hB (adK K) m) := ⟨isDef_K X T F.less, fun xs h1 => lifts B X F.less (n := 6) (less_gives _ (c_zcontent B X T F 6 (by decide)) xs h1) h⟩
theorem c_nextrow (m : Nat) (h : 10 ≤ m) : HasNextRow (semC prog w hB (adK K) m) := ⟨isDef_K X T F.nextrow, fun a b h1 h2 h3 h4 h5 h6 h7 => lifts B X F.nextrow (n := 8) (nextrow_gives _ (c_pseudo B X T F 8 (by decide)) (c_zneg B X T F 8 (by decide)) (c_less B X T F 8 (by decide)) a b h1 h2 h3 h4 h5 h6 h7) h⟩
theorem c_sturm (m : Nat) (h : 12 ≤ m) : HasSturm (semC prog w hB (adK K) m) := ⟨isDef_K X T F.sturm, fun f r h1 h2 h3 h4 => lifts B X F.sturm (n := 10) (sturm_gives _ (c_zderive B X T F 10 (by decide)) (c_nextrow B X T F 10 (by decide)) f r h1 h2 h3 h4) h⟩
theorem c_end_ (m : Nat) (h : 4 ≤ m) : HasEnd (semC prog w hB (adK K) m) := ⟨isDef_K X T F.end_, fun xs h1 => ⟨lifts B X F.end_ (n := 2) (end_gives1 _ (c_sign B X T F 2 (by decide)) (c_zdeg B X T F 2 (by decide)) (c_zlead B X T F 2 (by decide)) xs h1) h, lifts B X F.end_ (n := 2) (end_gives2 _ (c_sign B X T F 2 (by decide)) (c_zdeg B X T F 2 (by decide)) (c_zlead B X T F 2 (by decide)) xs h1) h⟩⟩
theorem c_sa1 (m : Nat) (h : 6 ≤ m) : SA (semC prog w hB (adK K) m) "-" true := ⟨isDef_K X T F.signat, fun xs h1 => lifts B X F.signat (n := 4) (signat_gives1 _ (c_end_ B X T F 4 (by decide)) xs h1) h⟩
theorem c_sa2 (m : Nat) (h : 6 ≤ m) : SA (semC prog w hB (adK K) m) "+" false := ⟨isDef_K X T F.signat, fun xs h1 => lifts B X F.signat (n := 4) (signat_gives2 _ (c_end_ B X T F 4 (by decide)) xs h1) h⟩
theorem c_ch1 (m : Nat) (h : 8 ≤ m) : HasChanges (semC prog w hB (adK K) m) "-" true := ⟨isDef_K X T F.changes, fun rows h1 h2 => lifts B X F.changes (n := 6) (changes_gives _ "-" true (c_sa1 B X T F 6 (by decide)) rows h1 h2) h⟩
theorem c_ch2 (m : Nat) (h : 8 ≤ m) : HasChanges (semC prog w hB (adK K) m) "+" false := ⟨isDef_K X T F.changes, fun rows h1 h2 => lifts B X F.changes (n := 6) (changes_gives _ "+" false (c_sa2 B X T F 6 (by decide)) rows h1 h2) h⟩
theorem c_count (m : Nat) (h : 10 ≤ m) : HasCount (semC prog w hB (adK K) m) := ⟨isDef_K X T F.count, fun rows h1 h2 => lifts B X F.count (n := 8) (count_gives _ (c_ch1 B X T F 8 (by decide)) (c_ch2 B X T F 8 (by decide)) rows h1 h2) h⟩
theorem c_draw (m : Nat) (h : 2 ≤ m) : HasDraw (semC prog w hB (adK K) m) := ⟨isDef_K X T F.draw, fun s spot many h1 => mlift B X F.draw (n := 0) (draw_gives _ s spot many h1) h⟩
theorem c_rows (m : Nat) (h : 12 ≤ m) : HasRows (semC prog w hB (adK K) m) := ⟨isDef_K X T F.rows, fun al dn h1 h2 h3 h4 h5 => lifts B X F.rows (n := 10) (rows_gives _ (c_qscale B X T F 10 (by decide)) (c_qsub B X T F 10 (by decide)) (c_qmul B X T F 10 (by decide)) al dn h1 h2 h3 h4 h5) h⟩
theorem c_ways (m : Nat) (h : 2 ≤ m) : HasWays (semC prog w hB (adK K) m) := ⟨isDef_K X T F.ways, fun al dn n h1 h2 h3 h4 h5 => lifts B X F.ways (n := 0) (ways_gives _ al dn n h1 h2 h3 h4 h5) h⟩
/-- what the quartic must be for «count_roots» to say 4 -/
structure QuadOK (f : List Int) : Prop where
  fit : FitL f
  lf : f.length < 900
  sub : ∃ r c, f.length ≠ 0 ∧ (derL f).length ≠ 0 ∧ gcdAll f ≠ 0 ∧ gcdAll (derL f) ≠ 0 ∧ Fit (gcdAll f) ∧ Fit (gcdAll (derL f)) ∧ (primL (derL f)).length ≤ (primL f).length ∧ SubCh (primL f) (primL (derL f)) 1 1 r ∧ r.length < 900 ∧
    (primL f :: primL (derL f) :: r) = (primL f :: primL (derL f) :: r).dropLast ++ [c] ∧ c.length ≤ 1
  st : ∃ r, StCh f (derL f) r ∧ r.length < 800 ∧ (∀ xs ∈ f :: r, 0 < leadL xs) ∧ (changes ((f :: r).map fun xs => endS xs true) : Int) - changes ((f :: r).map fun xs => endS xs false) = 4
theorem c_roots (m : Nat) (h : 18 ≤ m) (f : List Int) (Q : QuadOK f) : (semC prog w hB (adK K) m).call (Str.ofString "count_roots") [zl f, .str (Str.ofString "-"), .str (Str.ofString "+")] (.int 4) := by
  obtain ⟨r, c, a1, a2, a3, a4, a5, a6, a7, a8, a9, a10, a11⟩ := Q.sub
  obtain ⟨r', b1, b2, b3, b4⟩ := Q.st
  have hz := (c_zgcd B X T F 14 (by decide)).2 f (derL f) r c a1 a2 a3 a4 a5 a6 a7 a8 a9 a10 a11
  have hs := lifts (m := 16) B X F.simple (n := 14) (simple_gives _ (c_zderive B X T F 14 (by decide)) (isDef_K X T F.zgcd) (c_zdeg B X T F 14 (by decide)) f _ Q.fit Q.lf hz) (by decide)
  have := lifts (m := m) B X F.roots (n := 16) (roots_gives _ (isDef_K X T F.simple) (c_sturm B X T F 16 (by decide)) (c_count B X T F 16 (by decide)) f r' Q.fit Q.lf hs b1 b2 b3) h
  rwa [b4] at this
theorem c_law (m : Nat) (h : 20 ≤ m) (s : List Int) (P : LawOK (alL (s.take 7) 4) (dnL (s.take 7) 3)) (Q : QuadOK (rowAt (alL (s.take 7) 4) (dnL (s.take 7) 3) 4)) : CallAt prog w hB m (adK K (Str.ofString "law")) [zl s] (.bool true) :=
  lifts (m := m) B X F.law (n := 18) (law_gives _ (c_draw B X T F 18 (by decide)) (c_inv B X T F 18 (by decide)) (c_rmul B X T F 18 (by decide)) (c_ways B X T F 18 (by decide)) (c_rows B X T F 18 (by decide)) (c_qmul B X T F 18 (by decide)) (c_smul B X T F 18 (by decide)) (isDef_K X T F.roots) s P (c_roots B X T F 18 (by decide) _ Q)) h
end
end
end Mine
end
section
open PySem PySem.W PyProof.Rows PySem.Spec PySem.Calls
namespace Mine
theorem goodW_true {c : ClaimW} {cl : Str → Option Addr} {mean : ExcName → Option Value} {args : List WData} {s₁ s' : Shared} {fz fz' : PH} {v : Value} (g : Grow fz s₁ fz' s') (rd : Rd fz' v (.bool true)) (hg : s₁.gens = #[]) (hn : ∀ cls, c.raises args cls = false) (hp : c.post args (.bool true) args = true) :
    GoodW c cl mean args s₁ (.ok (.ret v)) s' := by
  cases rd
  obtain ⟨h, tk, rfl⟩ := g.same
  exact ⟨.inl ⟨_, .bool true, [], rfl, hn, .bool true, hp, unshared_nil⟩, g.ext, rfl, hg⟩
theorem aok_caller : AOK 20 callerA := ⟨rfl, by decide, by decide⟩
theorem rd_ints {fz : PH} : ∀ {vs : List Value} {ns : List Int}, IntsAre vs ns → RdAll fz vs (ns.map PyData.int)
  | _, _, .nil => .nil
  | _, _, .cons n t h => .cons (.int n t) (rd_ints h)
/-- the plain law, whole -/
noncomputable def PlainLaw : Prop := ∀ s : List Int, LawOK (alL s 4) (dnL s 3) ∧ QuadOK (rowAt (alL s 4) (dnL s 3) 4)
theorem law_done {prog : Program} {w : World} {K : Frag} {p : Program} {loose : List Str} {mean : ExcName → Option Value} {mg mb : Str → Option Value} {s₁ : Shared} {fa l : Addr} {vs : List Value} {ns : List Int} {Q E : Value → Shared → Prop}
    (PL : PlainLaw) (X : K.In s₁.heap) (T : Top p loose mean mg mb s₁.heap) (hi : importsNone p = true) (F : TopFacts K) (hfa : mg (Str.ofString "law") = some (.ref fa)) (hL : s₁.heap.IsList l vs.toArray) (hI : IntsAre vs ns) (hlen : ¬ (63 : Int) < ns.length)
    (hQ : ∀ v fz' s', Grow (fun a => s₁.heap.get? a) s₁ fz' s' → Rd fz' v (.bool true) → Q v s') : wpAny (model prog w) callerA (call (.ref fa) [.ref l]) Q E s₁ := by
  have TR := topRead_of T
  have B : Base prog w s₁.heap := base_of X TR (T.seer hi) F
  have e := mg_of X T.g F.law.ns
  rw [hfa] at e
  have e : fa = adK K (Str.ofString "law") := by
    injection e with e
    injection e
  subst e
  obtain ⟨P, Q4⟩ := PL (ns.take 7)
  obtain ⟨o, ho, hc, n, hd⟩ := hL
  have hr := rd_ints (fz := fun a => s₁.heap.get? a) hI
  have hlen' : vs.length = ns.length := by simpa using hr.length
  refine c_law B X TR F 20 (by decide) ns P Q4 callerA s₁ (fun a => s₁.heap.get? a) [.ref l] Q E aok_caller ⟨fun _ _ q => q, fun _ _ q => q⟩ (.cons (.list ho hc hd ?_ ?_) .nil) hQ
  · rw [List.size_toArray]; (first | lia | omega)
  · exact hr
end Mine
end
section
open PySem PySem.W
namespace Mine
/-- the product of series -/
noncomputable def S (f g : Nat → Int) : Nat → Int
  | 0 => f 0 * g 0
  | n + 1 => f 0 * g (n + 1) + S (fun m => f (m + 1)) g n
noncomputable def XS (f : Nat → Int) : Nat → Int
  | 0 => 0
  | n + 1 => f n
noncomputable def DS : Nat → Int
  | 0 => 1
  | _ + 1 => 0
/-- alike as far as asked -/
noncomputable def EqN (N : Nat) (f g : Nat → Int) : Prop := ∀ n, n < N → f n = g n
theorem EqN.refl {N : Nat} (f : Nat → Int) : EqN N f f := fun _ _ => rfl
theorem EqN.symm {N : Nat} {f g : Nat → Int} (h : EqN N f g) : EqN N g f := fun n hn => (h n hn).symm
theorem EqN.trans {N : Nat} {f g k : Nat → Int} (h : EqN N f g) (h' : EqN N g k) : EqN N f k := fun n hn => (h n hn).trans (h' n hn)
theorem S_congr_n {f f' g g' : Nat → Int} : ∀ n, (∀ m, m ≤ n → f m = f' m) → (∀ m, m ≤ n → g m = g' m) → S f g n = S f' g' n
  | 0, h1, h2 => by rw [S, S, h1 0 (Nat.le_refl _), h2 0 (Nat.le_refl _)]
  | n + 1, h1, h2 => by
    rw [S, S, h1 0 (by (first | lia | omega)), h2 (n + 1) (by (first | lia | omega)), S_congr_n n (fun m hm => h1 (m + 1) (by (first | lia | omega))) fun m hm => h2 m (by (first | lia | omega))]
theorem S_congr {N : Nat} {f f' g g' : Nat → Int} (h1 : EqN N f f') (h2 : EqN N g g') : EqN N (S f g) (S f' g') := fun n hn => S_congr_n n (fun m hm => h1 m (by (first | lia | omega))) fun m hm => h2 m (by (first | lia | omega))
theorem S_add_l (f f' g : Nat → Int) : ∀ n, S (fun m => f m + f' m) g n = S f g n + S f' g n
  | 0 => by simp only [S]; rw [Int.add_mul]
  | n + 1 => by
    have ih := S_add_l (fun m => f (m + 1)) (fun m => f' (m + 1)) g n
    simp only [S]; rw [ih, Int.add_mul]; (first | lia | omega)
theorem S_mul_l (c : Int) (f g : Nat → Int) : ∀ n, S (fun m => c * f m) g n = c * S f g n
  | 0 => by simp only [S]; rw [Int.mul_assoc]
  | n + 1 => by
    have ih := S_mul_l c (fun m => f (m + 1)) g n
    simp only [S]; rw [ih, Int.mul_assoc, Int.mul_add]
theorem S_tail (f g : Nat → Int) : ∀ n, S f g (n + 1) = S f (fun m => g (m + 1)) n + f (n + 1) * g 0
  | 0 => by simp only [S]
  | n + 1 => by
    have ih := S_tail (fun m => f (m + 1)) g n
    rw [S, ih, S]; (first | lia | omega)
theorem S_comm (f g : Nat → Int) : ∀ n, S f g n = S g f n
  | 0 => by simp only [S]; rw [Int.mul_comm]
  | n + 1 => by
    have ih := S_comm (fun m => f (m + 1)) g n
    rw [S, S_tail, ih, Int.mul_comm (f 0)]; (first | lia | omega)
theorem S_assoc (f g h : Nat → Int) : ∀ n, S (S f g) h n = S f (S g h) n
  | 0 => by simp only [S]; rw [Int.mul_assoc]
  | n + 1 => by
    have ih := S_assoc (fun m => f (m + 1)) g h n
    have e : (fun m => S f g (m + 1)) = fun m => f 0 * g (m + 1) + S (fun m => f (m + 1)) g m := by funext m; rw [S]
    rw [S, e, S_add_l, S_mul_l (f 0) (fun m => g (m + 1)) h, ih, S, S, S, Int.mul_assoc, Int.mul_add]; (first | lia | omega)
theorem S_add_r (f g g' : Nat → Int) (n : Nat) : S f (fun m => g m + g' m) n = S f g n + S f g' n := by
  rw [S_comm, S_add_l, S_comm g, S_comm g']
theorem S_mul_r (c : Int) (f g : Nat → Int) (n : Nat) : S f (fun m => c * g m) n = c * S f g n := by
  rw [S_comm, S_mul_l, S_comm g]
theorem S_zero (g : Nat → Int) : ∀ n, S (fun _ => 0) g n = 0
  | 0 => by simp [S]
  | n + 1 => by simp [S, S_zero g n]
theorem S_D (g : Nat → Int) : ∀ n, S DS g n = g n
  | 0 => by simp [S, DS]
  | n + 1 => by
    have : (fun m => DS (m + 1)) = fun _ => (0 : Int) := rfl
    rw [S, this, S_zero]; simp [DS]
theorem S_X (f g : Nat → Int) : ∀ n, S (XS f) g n = XS (S f g) n
  | 0 => by simp [S, XS]
  | n + 1 => by
    have : (fun m => XS f (m + 1)) = f := rfl
    rw [S, this]; simp [XS]
theorem S_X_r (f g : Nat → Int) (n : Nat) : S f (XS g) n = XS (S f g) n := by
  rw [S_comm, S_X]
  cases n with
  | zero => rfl
  | succ n => exact S_comm _ _ _
theorem XS_congr {N : Nat} {f g : Nat → Int} (h : EqN N f g) : EqN N (XS f) (XS g) := fun n hn => by
  cases n with
  | zero => rfl
  | succ n => exact h n (by (first | lia | omega))
/-- the series of a level: 1 - b x - l x^2 t -/
noncomputable def Xi (b l : Int) (t : Nat → Int) : Nat → Int := fun n => DS n + (-b) * XS DS n + (-l) * XS (XS t) n
theorem S_Xi (b l : Int) (t g : Nat → Int) (n : Nat) : S (Xi b l t) g n = g n + (-b) * XS g n + (-l) * XS (XS (S t g)) n := by
  have e : Xi b l t = fun n => (fun n => DS n + (-b) * XS DS n) n + (-l) * XS (XS t) n := rfl
  rw [e, S_add_l, S_add_l, S_mul_l, S_mul_l, S_D, S_X, S_X]
  have e1 : XS (S DS g) n = XS g n := by
    cases n with
    | zero => rfl
    | succ n => exact S_D g n
  have e2 : XS (S (XS t) g) n = XS (XS (S t g)) n := by
    cases n with
    | zero => rfl
    | succ n => exact S_X t g n
  rw [e1, e2]
/-- what is undone by t -/
theorem undo {N : Nat} {x t v r : Nat → Int} (h : EqN N (S x t) DS) (e : EqN N (S x v) r) : EqN N v (S t r) := by
  have h1 : EqN N (S t (S x v)) (S t r) := S_congr (EqN.refl t) e
  have h2 : EqN N (S t (S x v)) (S (S x t) v) := fun n hn => by
    rw [← S_assoc]
    exact S_congr_n n (fun m _ => S_comm _ _ _) fun _ _ => rfl
  have h3 : EqN N (S (S x t) v) (S DS v) := S_congr h (EqN.refl v)
  have h4 : EqN N (S DS v) v := fun n _ => S_D v n
  exact (h4.symm.trans (h3.symm.trans h2.symm)).trans h1
/-- a level of the ways -/
theorem level {N : Nat} {b l : Int} {t t' v v' u : Nat → Int} (h : EqN N (S (Xi b l t') t) DS) (hv : EqN N v (fun n => u n + b * XS v n + l * XS v' n)) (hv' : EqN N v' (XS (S t' v))) : EqN N v (S t u) := by
  refine undo h fun n hn => ?_
  have h1 : v n = u n + b * XS v n + l * XS v' n := hv n hn
  have : XS v' n = XS (XS (S t' v)) n := XS_congr hv' n hn
  rw [this] at h1
  rw [S_Xi, Int.neg_mul, Int.neg_mul]; (first | lia | omega)
/-- a level of the mirrored rows -/
theorem mirror {N : Nat} {b l : Int} {t t' q q' q'' : Nat → Int} (h : EqN N (S (Xi b l t') t) DS) (hq' : EqN N (S t' q') q'') (hq : EqN N q (fun n => q' n + (-b) * XS q' n + (-l) * XS (XS q'') n)) : EqN N (S t q) q' := by
  refine (undo h (v := q') (r := q) fun n hn => ?_).symm
  rw [S_Xi, hq n hn]
  have : XS (XS (S t' q')) n = XS (XS q'') n := XS_congr (XS_congr hq') n hn
  rw [this]
end Mine
end
section
open PySem PySem.W
namespace Mine
noncomputable def sq (xs : List Int) : Nat → Int := fun n => xs.getD n 0
noncomputable def PS (f g : Nat → Int) (n : Nat) : Nat → Int
  | 0 => 0
  | i + 1 => PS f g n i + f i * g (n - i)
theorem PS_head (f g : Nat → Int) (n : Nat) : ∀ i, PS f g (n + 1) (i + 1) = f 0 * g (n + 1) + PS (fun m => f (m + 1)) g n i
  | 0 => by simp [PS]
  | i + 1 => by
    have ih := PS_head f g n i
    rw [PS, ih, PS, Nat.add_sub_add_right]; (first | lia | omega)
theorem S_PS (g : Nat → Int) : ∀ (n : Nat) (f : Nat → Int), S f g n = PS f g n (n + 1)
  | 0, f => by simp [S, PS]
  | n + 1, f => by
    rw [S, S_PS g n, PS_head f g n (n + 1)]
theorem convP_PS (xs ys : List Int) (n : Nat) : ∀ i, convP xs ys n i = PS (sq xs) (sq ys) n i
  | 0 => rfl
  | i + 1 => by rw [convP, convP_PS xs ys n i]; rfl
theorem conv_S (xs ys : List Int) (n : Nat) : conv xs ys n = S (sq xs) (sq ys) n := by rw [conv, convP_PS, S_PS]
theorem PS_congr {f f' g g' : Nat → Int} {n : Nat} : ∀ i, i ≤ n + 1 → (∀ m, m < i → f m = f' m) → (∀ m, n - m < n + 1 → m < i → g (n - m) = g' (n - m)) → PS f g n i = PS f' g' n i
  | 0, _, _, _ => rfl
  | i + 1, h, h1, h2 => by
    rw [PS, PS, PS_congr i (by (first | lia | omega)) (fun m hm => h1 m (by (first | lia | omega))) (fun m h hm => h2 m h (by (first | lia | omega))), h1 i (by (first | lia | omega)), h2 i (by (first | lia | omega)) (by (first | lia | omega))]
theorem invE_PS (xs L : List Int) (n : Nat) : ∀ s, s ≤ n → invE xs L n s = DS n - PS (fun m => sq xs (m + 1)) (sq L) (n - 1) s
  | 0, _ => by
    cases n with
    | zero => simp [invE, DS, PS]
    | succ n => simp [invE, DS, PS]
  | s + 1, h => by
    rw [invE, invE_PS xs L n s (by (first | lia | omega)), PS, show n - (s + 1) = n - 1 - s by (first | lia | omega)]
    simp only [sq]; (first | lia | omega)
theorem invL_getD (xs : List Int) {n m : Nat} (h : n < m) : (invL xs m).getD n 0 = invE xs (invL xs n) n n := by
  obtain ⟨r, e⟩ := invL_pre xs (n + 1) m h
  rw [e, invL, List.append_assoc, List.getD_eq_getElem?_getD, List.getElem?_append_right (by rw [invL_length]; exact Nat.le_refl _), invL_length]
  simp
theorem invL_agree (xs : List Int) {n m i : Nat} (h : n ≤ m) (hi : i < n) : (invL xs n).getD i 0 = (invL xs m).getD i 0 := by
  rw [invL_getD xs hi, invL_getD xs (by (first | lia | omega))]
theorem inv_S (xs : List Int) (h1 : xs.getD 0 0 = 1) (m : Nat) : EqN m (S (sq xs) (sq (invL xs m))) DS := fun n hn => by
  have ht : sq (invL xs m) n = _ := invL_getD xs hn
  rw [invE_PS xs _ n n (Nat.le_refl _)] at ht
  cases n with
  | zero =>
    rw [S, ht]
    show xs.getD 0 0 * _ = _
    rw [h1]; simp [PS, DS]
  | succ n =>
    rw [S, ht, S_PS]
    show xs.getD 0 0 * _ + _ = _
    rw [h1, Int.one_mul]
    have : PS (fun m => sq xs (m + 1)) (sq (invL xs (n + 1))) (n + 1 - 1) (n + 1) = PS (fun m => sq xs (m + 1)) (sq (invL xs m)) n (n + 1) := by
      refine PS_congr (n + 1) (by (first | lia | omega)) (fun _ _ => rfl) fun k _ hk => ?_
      exact invL_agree xs (by (first | lia | omega)) (by (first | lia | omega))
    rw [this]; (first | lia | omega)
theorem eqN_list {xs : List Int} {N : Nat} {f : Nat → Int} (h : ∀ n, n < N → xs.getD n 0 = f n) : EqN N (sq xs) f := h
theorem low_S (b d : Int) (T : List Int) (hT : T.length = 8) : EqN 8 (sq (1 :: (0 - b) :: lowL d T)) (Xi b d (sq T)) := fun n hn => by
  match n with
  | 0 => simp [sq, Xi, DS, XS]
  | 1 => simp [sq, Xi, DS, XS]
  | n + 2 =>
    have e : sq (1 :: (0 - b) :: lowL d T) (n + 2) = (lowL d T).getD n 0 := rfl
    rw [e, lowL, List.getD_eq_getElem?_getD, List.getElem?_map, List.getElem?_take, if_pos (by (first | lia | omega))]
    have : T[n]? = some T[n] := List.getElem?_eq_getElem (by (first | lia | omega))
    rw [this]
    simp [Xi, DS, XS, sq, this]
theorem top_S (b : Int) : EqN 8 (sq (1 :: (0 - b) :: List.replicate 6 0)) (Xi b 0 fun _ => 0) := fun n hn => by
  match n with
  | 0 => simp [sq, Xi, DS, XS]
  | 1 => simp [sq, Xi, DS, XS]
  | n + 2 =>
    have e : sq (1 :: (0 - b) :: List.replicate 6 0) (n + 2) = (List.replicate 6 (0 : Int)).getD n 0 := rfl
    rw [e, List.getD_eq_getElem?_getD, List.getElem?_replicate, if_pos (by (first | lia | omega))]
    simp [Xi, DS, XS]
section
variable (b0 b1 b2 b3 l0 l1 l2 : Int)
/-- the fraction's levels, from the deepest one up -/
noncomputable abbrev T_ (i : Nat) : Nat → Int := sq (Tn [b0, b1, b2, b3] [l0, l1, l2] i)
theorem T3_S : EqN 8 (S (Xi b3 0 fun _ => 0) (T_ b0 b1 b2 b3 l0 l1 l2 0)) DS :=
  (S_congr (top_S b3).symm (EqN.refl _)).trans (inv_S _ rfl 8)
theorem T2_S : EqN 8 (S (Xi b2 l2 (T_ b0 b1 b2 b3 l0 l1 l2 0)) (T_ b0 b1 b2 b3 l0 l1 l2 1)) DS :=
  (S_congr (low_S b2 l2 _ (Tn_len _ _ 0)).symm (EqN.refl _)).trans (inv_S _ rfl 8)
theorem T1_S : EqN 8 (S (Xi b1 l1 (T_ b0 b1 b2 b3 l0 l1 l2 1)) (T_ b0 b1 b2 b3 l0 l1 l2 2)) DS :=
  (S_congr (low_S b1 l1 _ (Tn_len _ _ 1)).symm (EqN.refl _)).trans (inv_S _ rfl 8)
theorem T0_S : EqN 8 (S (Xi b0 l0 (T_ b0 b1 b2 b3 l0 l1 l2 2)) (T_ b0 b1 b2 b3 l0 l1 l2 3)) DS :=
  (S_congr (low_S b0 l0 _ (Tn_len _ _ 2)).symm (EqN.refl _)).trans (inv_S _ rfl 8)
/-- the heights -/
noncomputable abbrev V_ (i : Nat) : Nat → Int := fun n => (highL [b0, b1, b2, b3] [l0, l1, l2] n).getD i 0
theorem V_step (i n : Nat) (h : i < 4) : V_ b0 b1 b2 b3 l0 l1 l2 i (n + 1) = stepC [b0, b1, b2, b3] [l0, l1, l2] (highL [b0, b1, b2, b3] [l0, l1, l2] n) i := by
  show (stepH _ _ _).getD i 0 = _
  rw [stepH, range_getD, if_pos (show i < [b0, b1, b2, b3].length from h)]
theorem V0_S : EqN 8 (V_ b0 b1 b2 b3 l0 l1 l2 0) fun n => DS n + b0 * XS (V_ b0 b1 b2 b3 l0 l1 l2 0) n + l0 * XS (V_ b0 b1 b2 b3 l0 l1 l2 1) n := fun n _ => by
  cases n with
  | zero => simp [V_, highL, DS, XS]
  | succ n =>
    rw [V_step b0 b1 b2 b3 l0 l1 l2 0 n (by decide)]
    simp [stepC, DS, XS]
    rw [Int.mul_comm b0, Int.mul_comm l0]
theorem V1_S : EqN 8 (V_ b0 b1 b2 b3 l0 l1 l2 1) fun n => XS (V_ b0 b1 b2 b3 l0 l1 l2 0) n + b1 * XS (V_ b0 b1 b2 b3 l0 l1 l2 1) n + l1 * XS (V_ b0 b1 b2 b3 l0 l1 l2 2) n := fun n _ => by
  cases n with
  | zero => simp [V_, highL, DS, XS]
  | succ n =>
    rw [V_step b0 b1 b2 b3 l0 l1 l2 1 n (by decide)]
    simp [stepC, DS, XS]
    rw [Int.mul_comm b1, Int.mul_comm l1]; (first | lia | omega)
theorem V2_S : EqN 8 (V_ b0 b1 b2 b3 l0 l1 l2 2) fun n => XS (V_ b0 b1 b2 b3 l0 l1 l2 1) n + b2 * XS (V_ b0 b1 b2 b3 l0 l1 l2 2) n + l2 * XS (V_ b0 b1 b2 b3 l0 l1 l2 3) n := fun n _ => by
  cases n with
  | zero => simp [V_, highL, DS, XS]
  | succ n =>
    rw [V_step b0 b1 b2 b3 l0 l1 l2 2 n (by decide)]
    simp [stepC, DS, XS]
    rw [Int.mul_comm b2, Int.mul_comm l2]; (first | lia | omega)
theorem V3_S : EqN 8 (V_ b0 b1 b2 b3 l0 l1 l2 3) fun n => XS (V_ b0 b1 b2 b3 l0 l1 l2 2) n + b3 * XS (V_ b0 b1 b2 b3 l0 l1 l2 3) n + 0 * XS (fun _ => 0) n := fun n _ => by
  cases n with
  | zero => simp [V_, highL, DS, XS]
  | succ n =>
    rw [V_step b0 b1 b2 b3 l0 l1 l2 3 n (by decide)]
    simp [stepC, DS, XS]
    rw [Int.mul_comm b3]; (first | lia | omega)
theorem zero_S (v : Nat → Int) : EqN 8 (fun _ => 0) (XS (S (fun _ => 0) v)) := fun n _ => by
  cases n with
  | zero => rfl
  | succ n => exact (S_zero v n).symm
theorem XS_r {N : Nat} {t u v : Nat → Int} (h : EqN N v (S t (XS u))) : EqN N v (XS (S t u)) := fun n hn => by rw [h n hn, S_X_r]
theorem told_V : EqN 8 (V_ b0 b1 b2 b3 l0 l1 l2 0) (T_ b0 b1 b2 b3 l0 l1 l2 3) := by
  have h3 := level (T3_S b0 b1 b2 b3 l0 l1 l2) (V3_S b0 b1 b2 b3 l0 l1 l2) (zero_S _)
  have h2 := level (T2_S b0 b1 b2 b3 l0 l1 l2) (V2_S b0 b1 b2 b3 l0 l1 l2) (XS_r h3)
  have h1 := level (T1_S b0 b1 b2 b3 l0 l1 l2) (V1_S b0 b1 b2 b3 l0 l1 l2) (XS_r h2)
  have h0 := level (T0_S b0 b1 b2 b3 l0 l1 l2) (V0_S b0 b1 b2 b3 l0 l1 l2) (XS_r h1)
  exact h0.trans fun n hn => by rw [S_comm, S_D]
theorem told_ways : Tn [b0, b1, b2, b3] [l0, l1, l2] 3 = waysL [b0, b1, b2, b3] [l0, l1, l2] 8 := by
  refine ext_getD (by rw [Tn_len]; simp [waysL]) fun i => ?_
  rcases Nat.lt_or_ge i 8 with h | h
  · rw [waysL, range_getD, if_pos h]
    exact (told_V b0 b1 b2 b3 l0 l1 l2 i h).symm
  · rw [getD_out (by rw [Tn_len]; (first | lia | omega)), getD_out (by simp [waysL]; (first | lia | omega))]
end
end Mine
end
section
open PySem PySem.W
namespace Mine
theorem mul1 (x : Int) : mulL [x, 1] [1] = [0 + x * 1, 0 + 1 * 1] := rfl
theorem mul2 (x p0 : Int) : mulL [x, 1] [p0, 1] = [0 + x * p0, 0 + x * 1 + 1 * p0, 0 + 1 * 1] := rfl
theorem mul3 (x p0 p1 : Int) : mulL [x, 1] [p0, p1, 1] = [0 + x * p0, 0 + x * p1 + 1 * p0, 0 + x * 1 + 1 * p1, 0 + 1 * 1] := rfl
theorem mul4 (x p0 p1 p2 : Int) : mulL [x, 1] [p0, p1, p2, 1] = [0 + x * p0, 0 + x * p1 + 1 * p0, 0 + x * p2 + 1 * p1, 0 + x * 1 + 1 * p2, 0 + 1 * 1] := rfl
theorem row_step {b d : Int} {P Q R : List Int} (hR : Trimmed R) (h : ∀ i, (mulL [0 - b, 1] P).getD i 0 - Q.getD i 0 * d = R.getD i 0) : subL (mulL [0 - b, 1] P) (scaleL Q d) = R :=
  trimmed_ext (addL_trimmed _ _) hR fun i => by rw [subL_getD, scaleL_getD, h]
noncomputable def p20 (b0 b1 l0 : Int) : Int := b0 * b1 - l0
noncomputable def p21 (b0 b1 : Int) : Int := -b0 - b1
noncomputable def p30 (b0 b1 b2 l0 l1 : Int) : Int := -b2 * p20 b0 b1 l0 + l1 * b0
noncomputable def p31 (b0 b1 b2 l0 l1 : Int) : Int := p20 b0 b1 l0 - b2 * p21 b0 b1 - l1
noncomputable def p32 (b0 b1 b2 : Int) : Int := p21 b0 b1 - b2
noncomputable def p40 (b0 b1 b2 b3 l0 l1 l2 : Int) : Int := -b3 * p30 b0 b1 b2 l0 l1 - l2 * p20 b0 b1 l0
noncomputable def p41 (b0 b1 b2 b3 l0 l1 l2 : Int) : Int := p30 b0 b1 b2 l0 l1 - b3 * p31 b0 b1 b2 l0 l1 - l2 * p21 b0 b1
noncomputable def p42 (b0 b1 b2 b3 l0 l1 l2 : Int) : Int := p31 b0 b1 b2 l0 l1 - b3 * p32 b0 b1 b2 - l2
noncomputable def p43 (b0 b1 b2 b3 : Int) : Int := p32 b0 b1 b2 - b3
theorem rows2 (al dn : List Int) (b0 b1 b2 l0 l1 : Int) (h0 : al.getD 0 0 = b0) (h1 : al.getD 1 0 = b1) (h2 : al.getD 2 0 = b2) (g0 : dn.getD 0 0 = l0) (g1 : dn.getD 1 0 = l1) :
    rowsL al dn 2 = [[1], [0 - b0, 1], [p20 b0 b1 l0, p21 b0 b1, 1], [p30 b0 b1 b2 l0 l1, p31 b0 b1 b2 l0 l1, p32 b0 b1 b2, 1]] := by
  have e2 : subL (mulL [0 - b1, 1] [0 - b0, 1]) (scaleL [1] l0) = [p20 b0 b1 l0, p21 b0 b1, 1] := by
    refine row_step (.inr (show (1 : Int) ≠ 0 by decide)) fun i => ?_
    rw [mul2]
    match i with
    | 0 => show 0 + (0 - b1) * (0 - b0) - 1 * l0 = p20 b0 b1 l0; unfold p20; grind
    | 1 => show 0 + (0 - b1) * 1 + 1 * (0 - b0) - 0 * l0 = p21 b0 b1; unfold p21; grind
    | 2 => show 0 + 1 * 1 - 0 * l0 = 1; (first | lia | omega)
    | i + 3 => show (0 : Int) - 0 * l0 = 0; (first | lia | omega)
  have e3 : subL (mulL [0 - b2, 1] [p20 b0 b1 l0, p21 b0 b1, 1]) (scaleL [0 - b0, 1] l1) = [p30 b0 b1 b2 l0 l1, p31 b0 b1 b2 l0 l1, p32 b0 b1 b2, 1] := by
    refine row_step (.inr (show (1 : Int) ≠ 0 by decide)) fun i => ?_
    rw [mul3]
    match i with
    | 0 => show 0 + (0 - b2) * p20 b0 b1 l0 - (0 - b0) * l1 = p30 b0 b1 b2 l0 l1; unfold p30; grind
    | 1 => show 0 + (0 - b2) * p21 b0 b1 + 1 * p20 b0 b1 l0 - 1 * l1 = p31 b0 b1 b2 l0 l1; unfold p31; grind
    | 2 => show 0 + (0 - b2) * 1 + 1 * p21 b0 b1 - 0 * l1 = p32 b0 b1 b2; unfold p32; grind
    | 3 => show 0 + 1 * 1 - 0 * l1 = 1; (first | lia | omega)
    | i + 4 => show (0 : Int) - 0 * l1 = 0; (first | lia | omega)
  rw [rowsL, rowsL, rowsL]
  simp only [h0, h1, h2, g0, g1, List.cons_append, List.nil_append]
  show [[1], [0 - b0, 1], subL (mulL [0 - b1, 1] [0 - b0, 1]) (scaleL [1] l0), subL (mulL [0 - b2, 1] (subL (mulL [0 - b1, 1] [0 - b0, 1]) (scaleL [1] l0))) (scaleL [0 - b0, 1] l1)] = _
  rw [e2, e3]
section
variable (b0 b1 b2 b3 l0 l1 l2 : Int)
theorem rows3 : rowsL [b0, b1, b2, b3] [l0, l1, l2] 3 = [[1], [0 - b0, 1], [p20 b0 b1 l0, p21 b0 b1, 1], [p30 b0 b1 b2 l0 l1, p31 b0 b1 b2 l0 l1, p32 b0 b1 b2, 1], [p40 b0 b1 b2 b3 l0 l1 l2, p41 b0 b1 b2 b3 l0 l1 l2, p42 b0 b1 b2 b3 l0 l1 l2, p43 b0 b1 b2 b3, 1]] := by
  have e4 : subL (mulL [0 - b3, 1] [p30 b0 b1 b2 l0 l1, p31 b0 b1 b2 l0 l1, p32 b0 b1 b2, 1]) (scaleL [p20 b0 b1 l0, p21 b0 b1, 1] l2) = [p40 b0 b1 b2 b3 l0 l1 l2, p41 b0 b1 b2 b3 l0 l1 l2, p42 b0 b1 b2 b3 l0 l1 l2, p43 b0 b1 b2 b3, 1] := by
    refine row_step (.inr (show (1 : Int) ≠ 0 by decide)) fun i => ?_
    rw [mul4]
    match i with
    | 0 => show 0 + (0 - b3) * p30 b0 b1 b2 l0 l1 - p20 b0 b1 l0 * l2 = p40 b0 b1 b2 b3 l0 l1 l2; unfold p40; grind
    | 1 => show 0 + (0 - b3) * p31 b0 b1 b2 l0 l1 + 1 * p30 b0 b1 b2 l0 l1 - p21 b0 b1 * l2 = p41 b0 b1 b2 b3 l0 l1 l2; unfold p41; grind
    | 2 => show 0 + (0 - b3) * p32 b0 b1 b2 + 1 * p31 b0 b1 b2 l0 l1 - 1 * l2 = p42 b0 b1 b2 b3 l0 l1 l2; unfold p42; grind
    | 3 => show 0 + (0 - b3) * 1 + 1 * p32 b0 b1 b2 - 0 * l2 = p43 b0 b1 b2 b3; unfold p43; grind
    | 4 => show 0 + 1 * 1 - 0 * l2 = 1; (first | lia | omega)
    | i + 5 => show (0 : Int) - 0 * l2 = 0; (first | lia | omega)
  rw [rowsL, rows2 [b0, b1, b2, b3] [l0, l1, l2] b0 b1 b2 l0 l1 rfl rfl rfl rfl rfl]
  show [[1], [0 - b0, 1], [p20 b0 b1 l0, p21 b0 b1, 1], [p30 b0 b1 b2 l0 l1, p31 b0 b1 b2 l0 l1, p32 b0 b1 b2, 1], subL (mulL [0 - b3, 1] [p30 b0 b1 b2 l0 l1, p31 b0 b1 b2 l0 l1, p32 b0 b1 b2, 1]) (scaleL [p20 b0 b1 l0, p21 b0 b1, 1] l2)] = _
  rw [e4]
theorem above_eq : aboveL [b0, b1, b2, b3] [l0, l1, l2] = [p30 b1 b2 b3 l1 l2, p31 b1 b2 b3 l1 l2, p32 b1 b2 b3, 1] := by
  rw [aboveL, rows2 ([b0, b1, b2, b3].drop 1) ([l0, l1, l2].drop 1) b1 b2 b3 l1 l2 rfl rfl rfl rfl rfl]
  rfl
theorem r4_eq : rowAt [b0, b1, b2, b3] [l0, l1, l2] 4 = [p40 b0 b1 b2 b3 l0 l1 l2, p41 b0 b1 b2 b3 l0 l1 l2, p42 b0 b1 b2 b3 l0 l1 l2, p43 b0 b1 b2 b3, 1] := by
  rw [rowAt, rows3]; rfl
theorem cv_S : EqN 8 (S (T_ b0 b1 b2 b3 l0 l1 l2 3) (sq [1, p43 b0 b1 b2 b3, p42 b0 b1 b2 b3 l0 l1 l2, p41 b0 b1 b2 b3 l0 l1 l2, p40 b0 b1 b2 b3 l0 l1 l2])) (sq [1, p32 b1 b2 b3, p31 b1 b2 b3 l1 l2, p30 b1 b2 b3 l1 l2]) := by
  have m3 : EqN 8 (S (T_ b0 b1 b2 b3 l0 l1 l2 0) (sq [1, -b3])) DS := mirror (q'' := fun _ => 0) (T3_S b0 b1 b2 b3 l0 l1 l2) (fun n _ => S_zero _ n) fun n hn => by
    match n with
    | 0 => simp [sq, DS, XS]
    | 1 => simp [sq, DS, XS]
    | n + 2 => simp [sq, DS, XS]
  have m2 : EqN 8 (S (T_ b0 b1 b2 b3 l0 l1 l2 1) (sq [1, -b2 - b3, b2 * b3 - l2])) (sq [1, -b3]) := mirror (T2_S b0 b1 b2 b3 l0 l1 l2) m3 fun n hn => by
    match n with
    | 0 => simp [sq, DS, XS]
    | 1 => simp [sq, DS, XS]; grind
    | 2 => simp [sq, DS, XS]; grind
    | 3 => simp [sq, DS, XS]
    | n + 4 => simp [sq, DS, XS]
  have m1 : EqN 8 (S (T_ b0 b1 b2 b3 l0 l1 l2 2) (sq [1, p32 b1 b2 b3, p31 b1 b2 b3 l1 l2, p30 b1 b2 b3 l1 l2])) (sq [1, -b2 - b3, b2 * b3 - l2]) := mirror (T1_S b0 b1 b2 b3 l0 l1 l2) m2 fun n hn => by
    match n with
    | 0 => simp [sq, DS, XS]
    | 1 => simp [sq, DS, XS, p32, p21]; grind
    | 2 => simp [sq, DS, XS, p31, p20, p21]; grind
    | 3 => simp [sq, DS, XS, p30, p20]; grind
    | 4 => simp [sq, DS, XS]
    | n + 5 => simp [sq, DS, XS]
  exact mirror (T0_S b0 b1 b2 b3 l0 l1 l2) m1 fun n hn => by
    match n with
    | 0 => simp [sq, DS, XS]
    | 1 => simp [sq, DS, XS, p43, p32, p21]; grind
    | 2 => simp [sq, DS, XS, p42, p32, p31, p20, p21]; grind
    | 3 => simp [sq, DS, XS, p41, p30, p31, p32, p20, p21]; grind
    | 4 => simp [sq, DS, XS, p40, p30, p31, p20, p21]; grind
    | 5 => simp [sq, DS, XS]
    | n + 6 => simp [sq, DS, XS]
end
end Mine
end
section
open PySem PySem.W
namespace Mine
theorem tot00 (w0 x0 c d : Int) (m0 : 1 * w0 = c * x0) (n : 1 * x0 = d) : (0 + 1 * 1) * w0 + 0 = c * d := by
  have key : (0 + 1 * 1) * w0 + 0 = 1 * (1 * w0) := by clear m0 n; grind
  rw [key, m0, ← n]
  clear m0 n key; grind
theorem tot10 (r0 w0 w1 x0 x1 c d : Int) (m0 : 1 * w0 = c * x0) (m1 : 1 * w1 = c * x1) (n : r0 * x0 + 1 * x1 = d) : (0 + r0 * 1) * w0 + ((0 + 1 * 1) * w1 + 0) = c * d := by
  have key : (0 + r0 * 1) * w0 + ((0 + 1 * 1) * w1 + 0) = r0 * (1 * w0) + 1 * (1 * w1) := by clear m0 m1 n; grind
  rw [key, m0, m1, ← n]
  clear m0 m1 n key; grind
theorem tot11 (r0 s0 w0 w1 w2 x0 x1 c d : Int) (m0 : s0 * w0 + 1 * w1 = c * x0) (m1 : s0 * w1 + 1 * w2 = c * x1) (n : r0 * x0 + 1 * x1 = d) : (0 + r0 * s0) * w0 + ((0 + r0 * 1 + 1 * s0) * w1 + ((0 + 1 * 1) * w2 + 0)) = c * d := by
  have key : (0 + r0 * s0) * w0 + ((0 + r0 * 1 + 1 * s0) * w1 + ((0 + 1 * 1) * w2 + 0)) = r0 * (s0 * w0 + 1 * w1) + 1 * (s0 * w1 + 1 * w2) := by clear m0 m1 n; grind
  rw [key, m0, m1, ← n]
  clear m0 m1 n key; grind
theorem tot20 (r0 r1 w0 w1 w2 x0 x1 x2 c d : Int) (m0 : 1 * w0 = c * x0) (m1 : 1 * w1 = c * x1) (m2 : 1 * w2 = c * x2) (n : r0 * x0 + r1 * x1 + 1 * x2 = d) : (0 + r0 * 1) * w0 + ((0 + r1 * 1) * w1 + ((0 + 1 * 1) * w2 + 0)) = c * d := by
  have key : (0 + r0 * 1) * w0 + ((0 + r1 * 1) * w1 + ((0 + 1 * 1) * w2 + 0)) = r0 * (1 * w0) + r1 * (1 * w1) + 1 * (1 * w2) := by clear m0 m1 m2 n; grind
  rw [key, m0, m1, m2, ← n]
  clear m0 m1 m2 n key; grind
theorem tot21 (r0 r1 s0 w0 w1 w2 w3 x0 x1 x2 c d : Int) (m0 : s0 * w0 + 1 * w1 = c * x0) (m1 : s0 * w1 + 1 * w2 = c * x1) (m2 : s0 * w2 + 1 * w3 = c * x2) (n : r0 * x0 + r1 * x1 + 1 * x2 = d) : (0 + r0 * s0) * w0 + ((0 + r0 * 1 + r1 * s0) * w1 + ((0 + r1 * 1 + 1 * s0) * w2 + ((0 + 1 * 1) * w3 + 0))) = c * d := by
  have key : (0 + r0 * s0) * w0 + ((0 + r0 * 1 + r1 * s0) * w1 + ((0 + r1 * 1 + 1 * s0) * w2 + ((0 + 1 * 1) * w3 + 0))) = r0 * (s0 * w0 + 1 * w1) + r1 * (s0 * w1 + 1 * w2) + 1 * (s0 * w2 + 1 * w3) := by clear m0 m1 m2 n; grind
  rw [key, m0, m1, m2, ← n]
  clear m0 m1 m2 n key; grind
theorem tot22 (r0 r1 s0 s1 w0 w1 w2 w3 w4 x0 x1 x2 c d : Int) (m0 : s0 * w0 + s1 * w1 + 1 * w2 = c * x0) (m1 : s0 * w1 + s1 * w2 + 1 * w3 = c * x1) (m2 : s0 * w2 + s1 * w3 + 1 * w4 = c * x2) (n : r0 * x0 + r1 * x1 + 1 * x2 = d) : (0 + r0 * s0) * w0 + ((0 + r0 * s1 + r1 * s0) * w1 + ((0 + r0 * 1 + r1 * s1 + 1 * s0) * w2 + ((0 + r1 * 1 + 1 * s1) * w3 + ((0 + 1 * 1) * w4 + 0)))) = c * d := by
  have key : (0 + r0 * s0) * w0 + ((0 + r0 * s1 + r1 * s0) * w1 + ((0 + r0 * 1 + r1 * s1 + 1 * s0) * w2 + ((0 + r1 * 1 + 1 * s1) * w3 + ((0 + 1 * 1) * w4 + 0)))) = r0 * (s0 * w0 + s1 * w1 + 1 * w2) + r1 * (s0 * w1 + s1 * w2 + 1 * w3) + 1 * (s0 * w2 + s1 * w3 + 1 * w4) := by clear m0 m1 m2 n; grind
  rw [key, m0, m1, m2, ← n]
  clear m0 m1 m2 n key; grind
theorem tot30 (r0 r1 r2 w0 w1 w2 w3 x0 x1 x2 x3 c d : Int) (m0 : 1 * w0 = c * x0) (m1 : 1 * w1 = c * x1) (m2 : 1 * w2 = c * x2) (m3 : 1 * w3 = c * x3) (n : r0 * x0 + r1 * x1 + r2 * x2 + 1 * x3 = d) : (0 + r0 * 1) * w0 + ((0 + r1 * 1) * w1 + ((0 + r2 * 1) * w2 + ((0 + 1 * 1) * w3 + 0))) = c * d := by
  have key : (0 + r0 * 1) * w0 + ((0 + r1 * 1) * w1 + ((0 + r2 * 1) * w2 + ((0 + 1 * 1) * w3 + 0))) = r0 * (1 * w0) + r1 * (1 * w1) + r2 * (1 * w2) + 1 * (1 * w3) := by clear m0 m1 m2 m3 n; grind
  rw [key, m0, m1, m2, m3, ← n]
  clear m0 m1 m2 m3 n key; grind
theorem tot31 (r0 r1 r2 s0 w0 w1 w2 w3 w4 x0 x1 x2 x3 c d : Int) (m0 : s0 * w0 + 1 * w1 = c * x0) (m1 : s0 * w1 + 1 * w2 = c * x1) (m2 : s0 * w2 + 1 * w3 = c * x2) (m3 : s0 * w3 + 1 * w4 = c * x3) (n : r0 * x0 + r1 * x1 + r2 * x2 + 1 * x3 = d) : (0 + r0 * s0) * w0 + ((0 + r0 * 1 + r1 * s0) * w1 + ((0 + r1 * 1 + r2 * s0) * w2 + ((0 + r2 * 1 + 1 * s0) * w3 + ((0 + 1 * 1) * w4 + 0)))) = c * d := by
  have key : (0 + r0 * s0) * w0 + ((0 + r0 * 1 + r1 * s0) * w1 + ((0 + r1 * 1 + r2 * s0) * w2 + ((0 + r2 * 1 + 1 * s0) * w3 + ((0 + 1 * 1) * w4 + 0)))) = r0 * (s0 * w0 + 1 * w1) + r1 * (s0 * w1 + 1 * w2) + r2 * (s0 * w2 + 1 * w3) + 1 * (s0 * w3 + 1 * w4) := by clear m0 m1 m2 m3 n; grind
  rw [key, m0, m1, m2, m3, ← n]
  clear m0 m1 m2 m3 n key; grind
theorem tot32 (r0 r1 r2 s0 s1 w0 w1 w2 w3 w4 w5 x0 x1 x2 x3 c d : Int) (m0 : s0 * w0 + s1 * w1 + 1 * w2 = c * x0) (m1 : s0 * w1 + s1 * w2 + 1 * w3 = c * x1) (m2 : s0 * w2 + s1 * w3 + 1 * w4 = c * x2) (m3 : s0 * w3 + s1 * w4 + 1 * w5 = c * x3) (n : r0 * x0 + r1 * x1 + r2 * x2 + 1 * x3 = d) : (0 + r0 * s0) * w0 + ((0 + r0 * s1 + r1 * s0) * w1 + ((0 + r0 * 1 + r1 * s1 + r2 * s0) * w2 + ((0 + r1 * 1 + r2 * s1 + 1 * s0) * w3 + ((0 + r2 * 1 + 1 * s1) * w4 + ((0 + 1 * 1) * w5 + 0))))) = c * d := by
  have key : (0 + r0 * s0) * w0 + ((0 + r0 * s1 + r1 * s0) * w1 + ((0 + r0 * 1 + r1 * s1 + r2 * s0) * w2 + ((0 + r1 * 1 + r2 * s1 + 1 * s0) * w3 + ((0 + r2 * 1 + 1 * s1) * w4 + ((0 + 1 * 1) * w5 + 0))))) = r0 * (s0 * w0 + s1 * w1 + 1 * w2) + r1 * (s0 * w1 + s1 * w2 + 1 * w3) + r2 * (s0 * w2 + s1 * w3 + 1 * w4) + 1 * (s0 * w3 + s1 * w4 + 1 * w5) := by clear m0 m1 m2 m3 n; grind
  rw [key, m0, m1, m2, m3, ← n]
  clear m0 m1 m2 m3 n key; grind
theorem tot33 (r0 r1 r2 s0 s1 s2 w0 w1 w2 w3 w4 w5 w6 x0 x1 x2 x3 c d : Int) (m0 : s0 * w0 + s1 * w1 + s2 * w2 + 1 * w3 = c * x0) (m1 : s0 * w1 + s1 * w2 + s2 * w3 + 1 * w4 = c * x1) (m2 : s0 * w2 + s1 * w3 + s2 * w4 + 1 * w5 = c * x2) (m3 : s0 * w3 + s1 * w4 + s2 * w5 + 1 * w6 = c * x3) (n : r0 * x0 + r1 * x1 + r2 * x2 + 1 * x3 = d) : (0 + r0 * s0) * w0 + ((0 + r0 * s1 + r1 * s0) * w1 + ((0 + r0 * s2 + r1 * s1 + r2 * s0) * w2 + ((0 + r0 * 1 + r1 * s2 + r2 * s1 + 1 * s0) * w3 + ((0 + r1 * 1 + r2 * s2 + 1 * s1) * w4 + ((0 + r2 * 1 + 1 * s2) * w5 + ((0 + 1 * 1) * w6 + 0)))))) = c * d := by
  have key : (0 + r0 * s0) * w0 + ((0 + r0 * s1 + r1 * s0) * w1 + ((0 + r0 * s2 + r1 * s1 + r2 * s0) * w2 + ((0 + r0 * 1 + r1 * s2 + r2 * s1 + 1 * s0) * w3 + ((0 + r1 * 1 + r2 * s2 + 1 * s1) * w4 + ((0 + r2 * 1 + 1 * s2) * w5 + ((0 + 1 * 1) * w6 + 0)))))) = r0 * (s0 * w0 + s1 * w1 + s2 * w2 + 1 * w3) + r1 * (s0 * w1 + s1 * w2 + s2 * w3 + 1 * w4) + r2 * (s0 * w2 + s1 * w3 + s2 * w4 + 1 * w5) + 1 * (s0 * w3 + s1 * w4 + s2 * w5 + 1 * w6) := by clear m0 m1 m2 m3 n; grind
  rw [key, m0, m1, m2, m3, ← n]
  clear m0 m1 m2 m3 n key; grind
section
variable (b0 b1 b2 b3 l0 l1 l2 : Int)
theorem v0s (n : Nat) (h : n + 1 < 8) : V_ b0 b1 b2 b3 l0 l1 l2 0 (n + 1) = b0 * V_ b0 b1 b2 b3 l0 l1 l2 0 n + l0 * V_ b0 b1 b2 b3 l0 l1 l2 1 n := by
  have := V0_S b0 b1 b2 b3 l0 l1 l2 (n + 1) h
  simp only [DS, XS] at this; (first | lia | omega)
theorem v1s (n : Nat) (h : n + 1 < 8) : V_ b0 b1 b2 b3 l0 l1 l2 1 (n + 1) = V_ b0 b1 b2 b3 l0 l1 l2 0 n + b1 * V_ b0 b1 b2 b3 l0 l1 l2 1 n + l1 * V_ b0 b1 b2 b3 l0 l1 l2 2 n := by
  have := V1_S b0 b1 b2 b3 l0 l1 l2 (n + 1) h
  simp only [XS] at this; (first | lia | omega)
theorem v2s (n : Nat) (h : n + 1 < 8) : V_ b0 b1 b2 b3 l0 l1 l2 2 (n + 1) = V_ b0 b1 b2 b3 l0 l1 l2 1 n + b2 * V_ b0 b1 b2 b3 l0 l1 l2 2 n + l2 * V_ b0 b1 b2 b3 l0 l1 l2 3 n := by
  have := V2_S b0 b1 b2 b3 l0 l1 l2 (n + 1) h
  simp only [XS] at this; (first | lia | omega)
theorem v3s (n : Nat) (h : n + 1 < 8) : V_ b0 b1 b2 b3 l0 l1 l2 3 (n + 1) = V_ b0 b1 b2 b3 l0 l1 l2 2 n + b3 * V_ b0 b1 b2 b3 l0 l1 l2 3 n := by
  have := V3_S b0 b1 b2 b3 l0 l1 l2 (n + 1) h
  simp only [XS] at this; (first | lia | omega)
theorem M0 (k : Nat) : 1 * V_ b0 b1 b2 b3 l0 l1 l2 0 k = 1 * V_ b0 b1 b2 b3 l0 l1 l2 0 k := rfl
theorem M1 (k : Nat) (h : k + 1 < 8) : (0 - b0) * V_ b0 b1 b2 b3 l0 l1 l2 0 k + 1 * V_ b0 b1 b2 b3 l0 l1 l2 0 (k + 1) = (1 * l0) * V_ b0 b1 b2 b3 l0 l1 l2 1 k := by
  rw [v0s b0 b1 b2 b3 l0 l1 l2 k h]
  grind
theorem M2 (k : Nat) (h : k + 2 < 8) : p20 b0 b1 l0 * V_ b0 b1 b2 b3 l0 l1 l2 0 k + p21 b0 b1 * V_ b0 b1 b2 b3 l0 l1 l2 0 (k + 1) + 1 * V_ b0 b1 b2 b3 l0 l1 l2 0 (k + 2) = (1 * l0 * l1) * V_ b0 b1 b2 b3 l0 l1 l2 2 k := by
  have h1 := v0s b0 b1 b2 b3 l0 l1 l2 k (by (first | lia | omega))
  have h2 := v0s b0 b1 b2 b3 l0 l1 l2 (k + 1) (by (first | lia | omega))
  have h3 := v1s b0 b1 b2 b3 l0 l1 l2 k (by (first | lia | omega))
  rw [show k + 2 = k + 1 + 1 from rfl, h2, h1, h3, p20, p21]
  clear h1 h2 h3
  grind
theorem M3 (k : Nat) (h : k + 3 < 8) : p30 b0 b1 b2 l0 l1 * V_ b0 b1 b2 b3 l0 l1 l2 0 k + p31 b0 b1 b2 l0 l1 * V_ b0 b1 b2 b3 l0 l1 l2 0 (k + 1) + p32 b0 b1 b2 * V_ b0 b1 b2 b3 l0 l1 l2 0 (k + 2) + 1 * V_ b0 b1 b2 b3 l0 l1 l2 0 (k + 3) = (1 * l0 * l1 * l2) * V_ b0 b1 b2 b3 l0 l1 l2 3 k := by
  have h1 := v0s b0 b1 b2 b3 l0 l1 l2 k (by (first | lia | omega))
  have h2 := v0s b0 b1 b2 b3 l0 l1 l2 (k + 1) (by (first | lia | omega))
  have h3 := v1s b0 b1 b2 b3 l0 l1 l2 k (by (first | lia | omega))
  have h4 := v0s b0 b1 b2 b3 l0 l1 l2 (k + 2) (by (first | lia | omega))
  have h5 := v1s b0 b1 b2 b3 l0 l1 l2 (k + 1) (by (first | lia | omega))
  have h6 := v2s b0 b1 b2 b3 l0 l1 l2 k (by (first | lia | omega))
  rw [show k + 3 = k + 2 + 1 from rfl, show k + 2 = k + 1 + 1 from rfl] at *
  rw [h4, h5, h2, h6, h3, h1, p30, p31, p32, p20, p21]
  clear h1 h2 h3 h4 h5 h6
  grind
theorem x00 : V_ b0 b1 b2 b3 l0 l1 l2 0 0 = 1 := rfl
theorem x10 : V_ b0 b1 b2 b3 l0 l1 l2 1 0 = 0 := rfl
theorem x20 : V_ b0 b1 b2 b3 l0 l1 l2 2 0 = 0 := rfl
theorem x30 : V_ b0 b1 b2 b3 l0 l1 l2 3 0 = 0 := rfl
theorem x01 : V_ b0 b1 b2 b3 l0 l1 l2 0 1 = b0 * V_ b0 b1 b2 b3 l0 l1 l2 0 0 + l0 * V_ b0 b1 b2 b3 l0 l1 l2 1 0 := v0s b0 b1 b2 b3 l0 l1 l2 0 (by decide)
theorem x11 : V_ b0 b1 b2 b3 l0 l1 l2 1 1 = V_ b0 b1 b2 b3 l0 l1 l2 0 0 + b1 * V_ b0 b1 b2 b3 l0 l1 l2 1 0 + l1 * V_ b0 b1 b2 b3 l0 l1 l2 2 0 := v1s b0 b1 b2 b3 l0 l1 l2 0 (by decide)
theorem x21 : V_ b0 b1 b2 b3 l0 l1 l2 2 1 = V_ b0 b1 b2 b3 l0 l1 l2 1 0 + b2 * V_ b0 b1 b2 b3 l0 l1 l2 2 0 + l2 * V_ b0 b1 b2 b3 l0 l1 l2 3 0 := v2s b0 b1 b2 b3 l0 l1 l2 0 (by decide)
theorem x31 : V_ b0 b1 b2 b3 l0 l1 l2 3 1 = V_ b0 b1 b2 b3 l0 l1 l2 2 0 + b3 * V_ b0 b1 b2 b3 l0 l1 l2 3 0 := v3s b0 b1 b2 b3 l0 l1 l2 0 (by decide)
theorem x02 : V_ b0 b1 b2 b3 l0 l1 l2 0 2 = b0 * V_ b0 b1 b2 b3 l0 l1 l2 0 1 + l0 * V_ b0 b1 b2 b3 l0 l1 l2 1 1 := v0s b0 b1 b2 b3 l0 l1 l2 1 (by decide)
theorem x12 : V_ b0 b1 b2 b3 l0 l1 l2 1 2 = V_ b0 b1 b2 b3 l0 l1 l2 0 1 + b1 * V_ b0 b1 b2 b3 l0 l1 l2 1 1 + l1 * V_ b0 b1 b2 b3 l0 l1 l2 2 1 := v1s b0 b1 b2 b3 l0 l1 l2 1 (by decide)
theorem x22 : V_ b0 b1 b2 b3 l0 l1 l2 2 2 = V_ b0 b1 b2 b3 l0 l1 l2 1 1 + b2 * V_ b0 b1 b2 b3 l0 l1 l2 2 1 + l2 * V_ b0 b1 b2 b3 l0 l1 l2 3 1 := v2s b0 b1 b2 b3 l0 l1 l2 1 (by decide)
theorem x32 : V_ b0 b1 b2 b3 l0 l1 l2 3 2 = V_ b0 b1 b2 b3 l0 l1 l2 2 1 + b3 * V_ b0 b1 b2 b3 l0 l1 l2 3 1 := v3s b0 b1 b2 b3 l0 l1 l2 1 (by decide)
theorem x03 : V_ b0 b1 b2 b3 l0 l1 l2 0 3 = b0 * V_ b0 b1 b2 b3 l0 l1 l2 0 2 + l0 * V_ b0 b1 b2 b3 l0 l1 l2 1 2 := v0s b0 b1 b2 b3 l0 l1 l2 2 (by decide)
theorem x13 : V_ b0 b1 b2 b3 l0 l1 l2 1 3 = V_ b0 b1 b2 b3 l0 l1 l2 0 2 + b1 * V_ b0 b1 b2 b3 l0 l1 l2 1 2 + l1 * V_ b0 b1 b2 b3 l0 l1 l2 2 2 := v1s b0 b1 b2 b3 l0 l1 l2 2 (by decide)
theorem x23 : V_ b0 b1 b2 b3 l0 l1 l2 2 3 = V_ b0 b1 b2 b3 l0 l1 l2 1 2 + b2 * V_ b0 b1 b2 b3 l0 l1 l2 2 2 + l2 * V_ b0 b1 b2 b3 l0 l1 l2 3 2 := v2s b0 b1 b2 b3 l0 l1 l2 2 (by decide)
theorem x33 : V_ b0 b1 b2 b3 l0 l1 l2 3 3 = V_ b0 b1 b2 b3 l0 l1 l2 2 2 + b3 * V_ b0 b1 b2 b3 l0 l1 l2 3 2 := v3s b0 b1 b2 b3 l0 l1 l2 2 (by decide)
theorem n00 : 1 * V_ b0 b1 b2 b3 l0 l1 l2 0 0 = 1 := by
  simp only [x00 b0 b1 b2 b3 l0 l1 l2, x10 b0 b1 b2 b3 l0 l1 l2, x20 b0 b1 b2 b3 l0 l1 l2, x30 b0 b1 b2 b3 l0 l1 l2, p20, p21, p30, p31, p32]
  grind
theorem n10 : (0 - b0) * V_ b0 b1 b2 b3 l0 l1 l2 0 0 + 1 * V_ b0 b1 b2 b3 l0 l1 l2 0 1 = 0 := by
  simp only [x00 b0 b1 b2 b3 l0 l1 l2, x10 b0 b1 b2 b3 l0 l1 l2, x20 b0 b1 b2 b3 l0 l1 l2, x30 b0 b1 b2 b3 l0 l1 l2, x01 b0 b1 b2 b3 l0 l1 l2, x11 b0 b1 b2 b3 l0 l1 l2, x21 b0 b1 b2 b3 l0 l1 l2, x31 b0 b1 b2 b3 l0 l1 l2, p20, p21, p30, p31, p32]
  grind
theorem n11 : (0 - b0) * V_ b0 b1 b2 b3 l0 l1 l2 1 0 + 1 * V_ b0 b1 b2 b3 l0 l1 l2 1 1 = 1 := by
  simp only [x00 b0 b1 b2 b3 l0 l1 l2, x10 b0 b1 b2 b3 l0 l1 l2, x20 b0 b1 b2 b3 l0 l1 l2, x30 b0 b1 b2 b3 l0 l1 l2, x01 b0 b1 b2 b3 l0 l1 l2, x11 b0 b1 b2 b3 l0 l1 l2, x21 b0 b1 b2 b3 l0 l1 l2, x31 b0 b1 b2 b3 l0 l1 l2, p20, p21, p30, p31, p32]
  grind
theorem n20 : p20 b0 b1 l0 * V_ b0 b1 b2 b3 l0 l1 l2 0 0 + p21 b0 b1 * V_ b0 b1 b2 b3 l0 l1 l2 0 1 + 1 * V_ b0 b1 b2 b3 l0 l1 l2 0 2 = 0 := by
  simp only [x00 b0 b1 b2 b3 l0 l1 l2, x10 b0 b1 b2 b3 l0 l1 l2, x20 b0 b1 b2 b3 l0 l1 l2, x30 b0 b1 b2 b3 l0 l1 l2, x01 b0 b1 b2 b3 l0 l1 l2, x11 b0 b1 b2 b3 l0 l1 l2, x21 b0 b1 b2 b3 l0 l1 l2, x31 b0 b1 b2 b3 l0 l1 l2, x02 b0 b1 b2 b3 l0 l1 l2, x12 b0 b1 b2 b3 l0 l1 l2, x22 b0 b1 b2 b3 l0 l1 l2, x32 b0 b1 b2 b3 l0 l1 l2, p20, p21, p30, p31, p32]
  grind
theorem n21 : p20 b0 b1 l0 * V_ b0 b1 b2 b3 l0 l1 l2 1 0 + p21 b0 b1 * V_ b0 b1 b2 b3 l0 l1 l2 1 1 + 1 * V_ b0 b1 b2 b3 l0 l1 l2 1 2 = 0 := by
  simp only [x00 b0 b1 b2 b3 l0 l1 l2, x10 b0 b1 b2 b3 l0 l1 l2, x20 b0 b1 b2 b3 l0 l1 l2, x30 b0 b1 b2 b3 l0 l1 l2, x01 b0 b1 b2 b3 l0 l1 l2, x11 b0 b1 b2 b3 l0 l1 l2, x21 b0 b1 b2 b3 l0 l1 l2, x31 b0 b1 b2 b3 l0 l1 l2, x02 b0 b1 b2 b3 l0 l1 l2, x12 b0 b1 b2 b3 l0 l1 l2, x22 b0 b1 b2 b3 l0 l1 l2, x32 b0 b1 b2 b3 l0 l1 l2, p20, p21, p30, p31, p32]
  grind
theorem n22 : p20 b0 b1 l0 * V_ b0 b1 b2 b3 l0 l1 l2 2 0 + p21 b0 b1 * V_ b0 b1 b2 b3 l0 l1 l2 2 1 + 1 * V_ b0 b1 b2 b3 l0 l1 l2 2 2 = 1 := by
  simp only [x00 b0 b1 b2 b3 l0 l1 l2, x10 b0 b1 b2 b3 l0 l1 l2, x20 b0 b1 b2 b3 l0 l1 l2, x30 b0 b1 b2 b3 l0 l1 l2, x01 b0 b1 b2 b3 l0 l1 l2, x11 b0 b1 b2 b3 l0 l1 l2, x21 b0 b1 b2 b3 l0 l1 l2, x31 b0 b1 b2 b3 l0 l1 l2, x02 b0 b1 b2 b3 l0 l1 l2, x12 b0 b1 b2 b3 l0 l1 l2, x22 b0 b1 b2 b3 l0 l1 l2, x32 b0 b1 b2 b3 l0 l1 l2, p20, p21, p30, p31, p32]
  grind
theorem n30 : p30 b0 b1 b2 l0 l1 * V_ b0 b1 b2 b3 l0 l1 l2 0 0 + p31 b0 b1 b2 l0 l1 * V_ b0 b1 b2 b3 l0 l1 l2 0 1 + p32 b0 b1 b2 * V_ b0 b1 b2 b3 l0 l1 l2 0 2 + 1 * V_ b0 b1 b2 b3 l0 l1 l2 0 3 = 0 := by
  simp only [x00 b0 b1 b2 b3 l0 l1 l2, x10 b0 b1 b2 b3 l0 l1 l2, x20 b0 b1 b2 b3 l0 l1 l2, x30 b0 b1 b2 b3 l0 l1 l2, x01 b0 b1 b2 b3 l0 l1 l2, x11 b0 b1 b2 b3 l0 l1 l2, x21 b0 b1 b2 b3 l0 l1 l2, x31 b0 b1 b2 b3 l0 l1 l2, x02 b0 b1 b2 b3 l0 l1 l2, x12 b0 b1 b2 b3 l0 l1 l2, x22 b0 b1 b2 b3 l0 l1 l2, x32 b0 b1 b2 b3 l0 l1 l2, x03 b0 b1 b2 b3 l0 l1 l2, x13 b0 b1 b2 b3 l0 l1 l2, x23 b0 b1 b2 b3 l0 l1 l2, x33 b0 b1 b2 b3 l0 l1 l2, p20, p21, p30, p31, p32]
  grind
theorem n31 : p30 b0 b1 b2 l0 l1 * V_ b0 b1 b2 b3 l0 l1 l2 1 0 + p31 b0 b1 b2 l0 l1 * V_ b0 b1 b2 b3 l0 l1 l2 1 1 + p32 b0 b1 b2 * V_ b0 b1 b2 b3 l0 l1 l2 1 2 + 1 * V_ b0 b1 b2 b3 l0 l1 l2 1 3 = 0 := by
  simp only [x00 b0 b1 b2 b3 l0 l1 l2, x10 b0 b1 b2 b3 l0 l1 l2, x20 b0 b1 b2 b3 l0 l1 l2, x30 b0 b1 b2 b3 l0 l1 l2, x01 b0 b1 b2 b3 l0 l1 l2, x11 b0 b1 b2 b3 l0 l1 l2, x21 b0 b1 b2 b3 l0 l1 l2, x31 b0 b1 b2 b3 l0 l1 l2, x02 b0 b1 b2 b3 l0 l1 l2, x12 b0 b1 b2 b3 l0 l1 l2, x22 b0 b1 b2 b3 l0 l1 l2, x32 b0 b1 b2 b3 l0 l1 l2, x03 b0 b1 b2 b3 l0 l1 l2, x13 b0 b1 b2 b3 l0 l1 l2, x23 b0 b1 b2 b3 l0 l1 l2, x33 b0 b1 b2 b3 l0 l1 l2, p20, p21, p30, p31, p32]
  grind
theorem n32 : p30 b0 b1 b2 l0 l1 * V_ b0 b1 b2 b3 l0 l1 l2 2 0 + p31 b0 b1 b2 l0 l1 * V_ b0 b1 b2 b3 l0 l1 l2 2 1 + p32 b0 b1 b2 * V_ b0 b1 b2 b3 l0 l1 l2 2 2 + 1 * V_ b0 b1 b2 b3 l0 l1 l2 2 3 = 0 := by
  simp only [x00 b0 b1 b2 b3 l0 l1 l2, x10 b0 b1 b2 b3 l0 l1 l2, x20 b0 b1 b2 b3 l0 l1 l2, x30 b0 b1 b2 b3 l0 l1 l2, x01 b0 b1 b2 b3 l0 l1 l2, x11 b0 b1 b2 b3 l0 l1 l2, x21 b0 b1 b2 b3 l0 l1 l2, x31 b0 b1 b2 b3 l0 l1 l2, x02 b0 b1 b2 b3 l0 l1 l2, x12 b0 b1 b2 b3 l0 l1 l2, x22 b0 b1 b2 b3 l0 l1 l2, x32 b0 b1 b2 b3 l0 l1 l2, x03 b0 b1 b2 b3 l0 l1 l2, x13 b0 b1 b2 b3 l0 l1 l2, x23 b0 b1 b2 b3 l0 l1 l2, x33 b0 b1 b2 b3 l0 l1 l2, p20, p21, p30, p31, p32]
  grind
theorem n33 : p30 b0 b1 b2 l0 l1 * V_ b0 b1 b2 b3 l0 l1 l2 3 0 + p31 b0 b1 b2 l0 l1 * V_ b0 b1 b2 b3 l0 l1 l2 3 1 + p32 b0 b1 b2 * V_ b0 b1 b2 b3 l0 l1 l2 3 2 + 1 * V_ b0 b1 b2 b3 l0 l1 l2 3 3 = 1 := by
  simp only [x00 b0 b1 b2 b3 l0 l1 l2, x10 b0 b1 b2 b3 l0 l1 l2, x20 b0 b1 b2 b3 l0 l1 l2, x30 b0 b1 b2 b3 l0 l1 l2, x01 b0 b1 b2 b3 l0 l1 l2, x11 b0 b1 b2 b3 l0 l1 l2, x21 b0 b1 b2 b3 l0 l1 l2, x31 b0 b1 b2 b3 l0 l1 l2, x02 b0 b1 b2 b3 l0 l1 l2, x12 b0 b1 b2 b3 l0 l1 l2, x22 b0 b1 b2 b3 l0 l1 l2, x32 b0 b1 b2 b3 l0 l1 l2, x03 b0 b1 b2 b3 l0 l1 l2, x13 b0 b1 b2 b3 l0 l1 l2, x23 b0 b1 b2 b3 l0 l1 l2, x33 b0 b1 b2 b3 l0 l1 l2, p20, p21, p30, p31, p32]
  grind
theorem row_0 : rowAt [b0, b1, b2, b3] [l0, l1, l2] 0 = [1] := by rw [rowAt, rows3]; rfl
theorem row_1 : rowAt [b0, b1, b2, b3] [l0, l1, l2] 1 = [0 - b0, 1] := by rw [rowAt, rows3]; rfl
theorem row_2 : rowAt [b0, b1, b2, b3] [l0, l1, l2] 2 = [p20 b0 b1 l0, p21 b0 b1, 1] := by rw [rowAt, rows3]; rfl
theorem row_3 : rowAt [b0, b1, b2, b3] [l0, l1, l2] 3 = [p30 b0 b1 b2 l0 l1, p31 b0 b1 b2 l0 l1, p32 b0 b1 b2, 1] := by rw [rowAt, rows3]; rfl
theorem ways_V (p : Nat) (h : p < 8) : (waysL [b0, b1, b2, b3] [l0, l1, l2] 8).getD p 0 = V_ b0 b1 b2 b3 l0 l1 l2 0 p := by rw [waysL, range_getD, if_pos h]
end
theorem sum_of (L W : List Int) (g : Nat → Int) (h : ∀ p, p < L.length → W.getD p 0 = g p) : ((List.range L.length).map fun p => L.getD p 0 * W.getD p 0).sum = ((List.range L.length).map fun p => L.getD p 0 * g p).sum := by
  congr 1
  refine List.map_congr_left fun p hp => ?_
  rw [h p (List.mem_range.mp hp)]
theorem sum_1 (e0 : Int) (g : Nat → Int) : ((List.range [e0].length).map fun p => [e0].getD p 0 * g p).sum = e0 * g 0 + 0 := rfl
theorem sum_2 (e0 e1 : Int) (g : Nat → Int) : ((List.range [e0, e1].length).map fun p => [e0, e1].getD p 0 * g p).sum = e0 * g 0 + (e1 * g 1 + 0) := rfl
theorem sum_3 (e0 e1 e2 : Int) (g : Nat → Int) : ((List.range [e0, e1, e2].length).map fun p => [e0, e1, e2].getD p 0 * g p).sum = e0 * g 0 + (e1 * g 1 + (e2 * g 2 + 0)) := rfl
theorem sum_4 (e0 e1 e2 e3 : Int) (g : Nat → Int) : ((List.range [e0, e1, e2, e3].length).map fun p => [e0, e1, e2, e3].getD p 0 * g p).sum = e0 * g 0 + (e1 * g 1 + (e2 * g 2 + (e3 * g 3 + 0))) := rfl
theorem sum_5 (e0 e1 e2 e3 e4 : Int) (g : Nat → Int) : ((List.range [e0, e1, e2, e3, e4].length).map fun p => [e0, e1, e2, e3, e4].getD p 0 * g p).sum = e0 * g 0 + (e1 * g 1 + (e2 * g 2 + (e3 * g 3 + (e4 * g 4 + 0)))) := rfl
theorem sum_6 (e0 e1 e2 e3 e4 e5 : Int) (g : Nat → Int) : ((List.range [e0, e1, e2, e3, e4, e5].length).map fun p => [e0, e1, e2, e3, e4, e5].getD p 0 * g p).sum = e0 * g 0 + (e1 * g 1 + (e2 * g 2 + (e3 * g 3 + (e4 * g 4 + (e5 * g 5 + 0))))) := rfl
theorem sum_7 (e0 e1 e2 e3 e4 e5 e6 : Int) (g : Nat → Int) : ((List.range [e0, e1, e2, e3, e4, e5, e6].length).map fun p => [e0, e1, e2, e3, e4, e5, e6].getD p 0 * g p).sum = e0 * g 0 + (e1 * g 1 + (e2 * g 2 + (e3 * g 3 + (e4 * g 4 + (e5 * g 5 + (e6 * g 6 + 0)))))) := rfl
theorem mm00  : mulL [1] [1] = [0 + 1 * 1] := by kernel_rfl
theorem mm10 (r0 : Int) : mulL [r0, 1] [1] = [0 + r0 * 1, 0 + 1 * 1] := by kernel_rfl
theorem mm11 (r0 s0 : Int) : mulL [r0, 1] [s0, 1] = [0 + r0 * s0, 0 + r0 * 1 + 1 * s0, 0 + 1 * 1] := by kernel_rfl
theorem mm20 (r0 r1 : Int) : mulL [r0, r1, 1] [1] = [0 + r0 * 1, 0 + r1 * 1, 0 + 1 * 1] := by kernel_rfl
theorem mm21 (r0 r1 s0 : Int) : mulL [r0, r1, 1] [s0, 1] = [0 + r0 * s0, 0 + r0 * 1 + r1 * s0, 0 + r1 * 1 + 1 * s0, 0 + 1 * 1] := by kernel_rfl
theorem mm22 (r0 r1 s0 s1 : Int) : mulL [r0, r1, 1] [s0, s1, 1] = [0 + r0 * s0, 0 + r0 * s1 + r1 * s0, 0 + r0 * 1 + r1 * s1 + 1 * s0, 0 + r1 * 1 + 1 * s1, 0 + 1 * 1] := by kernel_rfl
theorem mm30 (r0 r1 r2 : Int) : mulL [r0, r1, r2, 1] [1] = [0 + r0 * 1, 0 + r1 * 1, 0 + r2 * 1, 0 + 1 * 1] := by kernel_rfl
theorem mm31 (r0 r1 r2 s0 : Int) : mulL [r0, r1, r2, 1] [s0, 1] = [0 + r0 * s0, 0 + r0 * 1 + r1 * s0, 0 + r1 * 1 + r2 * s0, 0 + r2 * 1 + 1 * s0, 0 + 1 * 1] := by kernel_rfl
theorem mm32 (r0 r1 r2 s0 s1 : Int) : mulL [r0, r1, r2, 1] [s0, s1, 1] = [0 + r0 * s0, 0 + r0 * s1 + r1 * s0, 0 + r0 * 1 + r1 * s1 + r2 * s0, 0 + r1 * 1 + r2 * s1 + 1 * s0, 0 + r2 * 1 + 1 * s1, 0 + 1 * 1] := by kernel_rfl
theorem mm33 (r0 r1 r2 s0 s1 s2 : Int) : mulL [r0, r1, r2, 1] [s0, s1, s2, 1] = [0 + r0 * s0, 0 + r0 * s1 + r1 * s0, 0 + r0 * s2 + r1 * s1 + r2 * s0, 0 + r0 * 1 + r1 * s2 + r2 * s1 + 1 * s0, 0 + r1 * 1 + r2 * s2 + 1 * s1, 0 + r2 * 1 + 1 * s2, 0 + 1 * 1] := by kernel_rfl
theorem total_of {al dn : List Int} {i j : Nat} {E : List Int} {g : Nat → Int} (h : mulL (rowAt al dn i) (rowAt al dn j) = E) (hl : E.length ≤ 8) (hw : ∀ p, p < 8 → (waysL al dn 8).getD p 0 = g p) :
    totalL al dn i j = ((List.range E.length).map fun p => E.getD p 0 * g p).sum := by
  rw [totalL, h]
  exact sum_of _ _ g fun p hp => hw p (Nat.lt_of_lt_of_le hp hl)
section
variable (b0 b1 b2 b3 l0 l1 l2 : Int)
theorem tl00 : totalL [b0, b1, b2, b3] [l0, l1, l2] 0 0 = (0 + 1 * 1) * V_ b0 b1 b2 b3 l0 l1 l2 0 0 + 0 := by
  have h : mulL (rowAt [b0, b1, b2, b3] [l0, l1, l2] 0) (rowAt [b0, b1, b2, b3] [l0, l1, l2] 0) = [0 + 1 * 1] := by rw [row_0 b0 b1 b2 b3 l0 l1 l2]; exact mm00 
  rw [total_of h (Nat.le_of_ble_eq_true rfl) (ways_V b0 b1 b2 b3 l0 l1 l2)]
  exact sum_1 (0 + 1 * 1) (V_ b0 b1 b2 b3 l0 l1 l2 0)
theorem total00 : totalL [b0, b1, b2, b3] [l0, l1, l2] 0 0 = 1 * 1 := by
  rw [tl00]
  have m0 : 1 * V_ b0 b1 b2 b3 l0 l1 l2 0 0 = 1 * V_ b0 b1 b2 b3 l0 l1 l2 0 0 := M0 b0 b1 b2 b3 l0 l1 l2 0
  have n := n00 b0 b1 b2 b3 l0 l1 l2
  generalize V_ b0 b1 b2 b3 l0 l1 l2 0 = g0 at m0 n ⊢
  exact tot00  (g0 0) (g0 0) (1) 1 m0 n
theorem tl10 : totalL [b0, b1, b2, b3] [l0, l1, l2] 1 0 = (0 + (0 - b0) * 1) * V_ b0 b1 b2 b3 l0 l1 l2 0 0 + ((0 + 1 * 1) * V_ b0 b1 b2 b3 l0 l1 l2 0 1 + 0) := by
  have h : mulL (rowAt [b0, b1, b2, b3] [l0, l1, l2] 1) (rowAt [b0, b1, b2, b3] [l0, l1, l2] 0) = [0 + (0 - b0) * 1, 0 + 1 * 1] := by rw [row_1 b0 b1 b2 b3 l0 l1 l2, row_0 b0 b1 b2 b3 l0 l1 l2]; exact mm10 (0 - b0)
  rw [total_of h (Nat.le_of_ble_eq_true rfl) (ways_V b0 b1 b2 b3 l0 l1 l2)]
  exact sum_2 (0 + (0 - b0) * 1) (0 + 1 * 1) (V_ b0 b1 b2 b3 l0 l1 l2 0)
theorem total10 : totalL [b0, b1, b2, b3] [l0, l1, l2] 1 0 = 1 * 0 := by
  rw [tl10]
  have m0 : 1 * V_ b0 b1 b2 b3 l0 l1 l2 0 0 = 1 * V_ b0 b1 b2 b3 l0 l1 l2 0 0 := M0 b0 b1 b2 b3 l0 l1 l2 0
  have m1 : 1 * V_ b0 b1 b2 b3 l0 l1 l2 0 1 = 1 * V_ b0 b1 b2 b3 l0 l1 l2 0 1 := M0 b0 b1 b2 b3 l0 l1 l2 1
  have n := n10 b0 b1 b2 b3 l0 l1 l2
  generalize V_ b0 b1 b2 b3 l0 l1 l2 0 = g0 at m0 m1 n ⊢
  exact tot10 (0 - b0) (g0 0) (g0 1) (g0 0) (g0 1) (1) 0 m0 m1 n
theorem tl11 : totalL [b0, b1, b2, b3] [l0, l1, l2] 1 1 = (0 + (0 - b0) * (0 - b0)) * V_ b0 b1 b2 b3 l0 l1 l2 0 0 + ((0 + (0 - b0) * 1 + 1 * (0 - b0)) * V_ b0 b1 b2 b3 l0 l1 l2 0 1 + ((0 + 1 * 1) * V_ b0 b1 b2 b3 l0 l1 l2 0 2 + 0)) := by
  have h : mulL (rowAt [b0, b1, b2, b3] [l0, l1, l2] 1) (rowAt [b0, b1, b2, b3] [l0, l1, l2] 1) = [0 + (0 - b0) * (0 - b0), 0 + (0 - b0) * 1 + 1 * (0 - b0), 0 + 1 * 1] := by rw [row_1 b0 b1 b2 b3 l0 l1 l2]; exact mm11 (0 - b0) (0 - b0)
  rw [total_of h (Nat.le_of_ble_eq_true rfl) (ways_V b0 b1 b2 b3 l0 l1 l2)]
  exact sum_3 (0 + (0 - b0) * (0 - b0)) (0 + (0 - b0) * 1 + 1 * (0 - b0)) (0 + 1 * 1) (V_ b0 b1 b2 b3 l0 l1 l2 0)
theorem total11 : totalL [b0, b1, b2, b3] [l0, l1, l2] 1 1 = (1 * l0) * 1 := by
  rw [tl11]
  have m0 : (0 - b0) * V_ b0 b1 b2 b3 l0 l1 l2 0 0 + 1 * V_ b0 b1 b2 b3 l0 l1 l2 0 1 = (1 * l0) * V_ b0 b1 b2 b3 l0 l1 l2 1 0 := M1 b0 b1 b2 b3 l0 l1 l2 0 (by decide)
  have m1 : (0 - b0) * V_ b0 b1 b2 b3 l0 l1 l2 0 1 + 1 * V_ b0 b1 b2 b3 l0 l1 l2 0 2 = (1 * l0) * V_ b0 b1 b2 b3 l0 l1 l2 1 1 := M1 b0 b1 b2 b3 l0 l1 l2 1 (by decide)
  have n := n11 b0 b1 b2 b3 l0 l1 l2
  generalize V_ b0 b1 b2 b3 l0 l1 l2 0 = g0 at m0 m1 n ⊢
  generalize V_ b0 b1 b2 b3 l0 l1 l2 1 = g1 at m0 m1 n ⊢
  exact tot11 (0 - b0) (0 - b0) (g0 0) (g0 1) (g0 2) (g1 0) (g1 1) ((1 * l0)) 1 m0 m1 n
theorem tl20 : totalL [b0, b1, b2, b3] [l0, l1, l2] 2 0 = (0 + p20 b0 b1 l0 * 1) * V_ b0 b1 b2 b3 l0 l1 l2 0 0 + ((0 + p21 b0 b1 * 1) * V_ b0 b1 b2 b3 l0 l1 l2 0 1 + ((0 + 1 * 1) * V_ b0 b1 b2 b3 l0 l1 l2 0 2 + 0)) := by
  have h : mulL (rowAt [b0, b1, b2, b3] [l0, l1, l2] 2) (rowAt [b0, b1, b2, b3] [l0, l1, l2] 0) = [0 + p20 b0 b1 l0 * 1, 0 + p21 b0 b1 * 1, 0 + 1 * 1] := by rw [row_2 b0 b1 b2 b3 l0 l1 l2, row_0 b0 b1 b2 b3 l0 l1 l2]; exact mm20 (p20 b0 b1 l0) (p21 b0 b1)
  rw [total_of h (Nat.le_of_ble_eq_true rfl) (ways_V b0 b1 b2 b3 l0 l1 l2)]
  exact sum_3 (0 + p20 b0 b1 l0 * 1) (0 + p21 b0 b1 * 1) (0 + 1 * 1) (V_ b0 b1 b2 b3 l0 l1 l2 0)
theorem total20 : totalL [b0, b1, b2, b3] [l0, l1, l2] 2 0 = 1 * 0 := by
  rw [tl20]
  have m0 : 1 * V_ b0 b1 b2 b3 l0 l1 l2 0 0 = 1 * V_ b0 b1 b2 b3 l0 l1 l2 0 0 := M0 b0 b1 b2 b3 l0 l1 l2 0
  have m1 : 1 * V_ b0 b1 b2 b3 l0 l1 l2 0 1 = 1 * V_ b0 b1 b2 b3 l0 l1 l2 0 1 := M0 b0 b1 b2 b3 l0 l1 l2 1
  have m2 : 1 * V_ b0 b1 b2 b3 l0 l1 l2 0 2 = 1 * V_ b0 b1 b2 b3 l0 l1 l2 0 2 := M0 b0 b1 b2 b3 l0 l1 l2 2
  have n := n20 b0 b1 b2 b3 l0 l1 l2
  generalize V_ b0 b1 b2 b3 l0 l1 l2 0 = g0 at m0 m1 m2 n ⊢
  exact tot20 (p20 b0 b1 l0) (p21 b0 b1) (g0 0) (g0 1) (g0 2) (g0 0) (g0 1) (g0 2) (1) 0 m0 m1 m2 n
theorem tl21 : totalL [b0, b1, b2, b3] [l0, l1, l2] 2 1 = (0 + p20 b0 b1 l0 * (0 - b0)) * V_ b0 b1 b2 b3 l0 l1 l2 0 0 + ((0 + p20 b0 b1 l0 * 1 + p21 b0 b1 * (0 - b0)) * V_ b0 b1 b2 b3 l0 l1 l2 0 1 + ((0 + p21 b0 b1 * 1 + 1 * (0 - b0)) * V_ b0 b1 b2 b3 l0 l1 l2 0 2 + ((0 + 1 * 1) * V_ b0 b1 b2 b3 l0 l1 l2 0 3 + 0))) := by
  have h : mulL (rowAt [b0, b1, b2, b3] [l0, l1, l2] 2) (rowAt [b0, b1, b2, b3] [l0, l1, l2] 1) = [0 + p20 b0 b1 l0 * (0 - b0), 0 + p20 b0 b1 l0 * 1 + p21 b0 b1 * (0 - b0), 0 + p21 b0 b1 * 1 + 1 * (0 - b0), 0 + 1 * 1] := by rw [row_2 b0 b1 b2 b3 l0 l1 l2, row_1 b0 b1 b2 b3 l0 l1 l2]; exact mm21 (p20 b0 b1 l0) (p21 b0 b1) (0 - b0)
  rw [total_of h (Nat.le_of_ble_eq_true rfl) (ways_V b0 b1 b2 b3 l0 l1 l2)]
  exact sum_4 (0 + p20 b0 b1 l0 * (0 - b0)) (0 + p20 b0 b1 l0 * 1 + p21 b0 b1 * (0 - b0)) (0 + p21 b0 b1 * 1 + 1 * (0 - b0)) (0 + 1 * 1) (V_ b0 b1 b2 b3 l0 l1 l2 0)
theorem total21 : totalL [b0, b1, b2, b3] [l0, l1, l2] 2 1 = (1 * l0) * 0 := by
  rw [tl21]
  have m0 : (0 - b0) * V_ b0 b1 b2 b3 l0 l1 l2 0 0 + 1 * V_ b0 b1 b2 b3 l0 l1 l2 0 1 = (1 * l0) * V_ b0 b1 b2 b3 l0 l1 l2 1 0 := M1 b0 b1 b2 b3 l0 l1 l2 0 (by decide)
  have m1 : (0 - b0) * V_ b0 b1 b2 b3 l0 l1 l2 0 1 + 1 * V_ b0 b1 b2 b3 l0 l1 l2 0 2 = (1 * l0) * V_ b0 b1 b2 b3 l0 l1 l2 1 1 := M1 b0 b1 b2 b3 l0 l1 l2 1 (by decide)
  have m2 : (0 - b0) * V_ b0 b1 b2 b3 l0 l1 l2 0 2 + 1 * V_ b0 b1 b2 b3 l0 l1 l2 0 3 = (1 * l0) * V_ b0 b1 b2 b3 l0 l1 l2 1 2 := M1 b0 b1 b2 b3 l0 l1 l2 2 (by decide)
  have n := n21 b0 b1 b2 b3 l0 l1 l2
  generalize V_ b0 b1 b2 b3 l0 l1 l2 0 = g0 at m0 m1 m2 n ⊢
  generalize V_ b0 b1 b2 b3 l0 l1 l2 1 = g1 at m0 m1 m2 n ⊢
  exact tot21 (p20 b0 b1 l0) (p21 b0 b1) (0 - b0) (g0 0) (g0 1) (g0 2) (g0 3) (g1 0) (g1 1) (g1 2) ((1 * l0)) 0 m0 m1 m2 n
theorem tl22 : totalL [b0, b1, b2, b3] [l0, l1, l2] 2 2 = (0 + p20 b0 b1 l0 * p20 b0 b1 l0) * V_ b0 b1 b2 b3 l0 l1 l2 0 0 + ((0 + p20 b0 b1 l0 * p21 b0 b1 + p21 b0 b1 * p20 b0 b1 l0) * V_ b0 b1 b2 b3 l0 l1 l2 0 1 + ((0 + p20 b0 b1 l0 * 1 + p21 b0 b1 * p21 b0 b1 + 1 * p20 b0 b1 l0) * V_ b0 b1 b2 b3 l0 l1 l2 0 2 + ((0 + p21 b0 b1 * 1 + 1 * p21 b0 b1) * V_ b0 b1 b2 b3 l0 l1 l2 0 3 + ((0 + 1 * 1) * V_ b0 b1 b2 b3 l0 l1 l2 0 4 + 0)))) := by
  have h : mulL (rowAt [b0, b1, b2, b3] [l0, l1, l2] 2) (rowAt [b0, b1, b2, b3] [l0, l1, l2] 2) = [0 + p20 b0 b1 l0 * p20 b0 b1 l0, 0 + p20 b0 b1 l0 * p21 b0 b1 + p21 b0 b1 * p20 b0 b1 l0, 0 + p20 b0 b1 l0 * 1 + p21 b0 b1 * p21 b0 b1 + 1 * p20 b0 b1 l0, 0 + p21 b0 b1 * 1 + 1 * p21 b0 b1, 0 + 1 * 1] := by rw [row_2 b0 b1 b2 b3 l0 l1 l2]; exact mm22 (p20 b0 b1 l0) (p21 b0 b1) (p20 b0 b1 l0) (p21 b0 b1)
  rw [total_of h (Nat.le_of_ble_eq_true rfl) (ways_V b0 b1 b2 b3 l0 l1 l2)]
  exact sum_5 (0 + p20 b0 b1 l0 * p20 b0 b1 l0) (0 + p20 b0 b1 l0 * p21 b0 b1 + p21 b0 b1 * p20 b0 b1 l0) (0 + p20 b0 b1 l0 * 1 + p21 b0 b1 * p21 b0 b1 + 1 * p20 b0 b1 l0) (0 + p21 b0 b1 * 1 + 1 * p21 b0 b1) (0 + 1 * 1) (V_ b0 b1 b2 b3 l0 l1 l2 0)
theorem total22 : totalL [b0, b1, b2, b3] [l0, l1, l2] 2 2 = (1 * l0 * l1) * 1 := by
  rw [tl22]
  have m0 : p20 b0 b1 l0 * V_ b0 b1 b2 b3 l0 l1 l2 0 0 + p21 b0 b1 * V_ b0 b1 b2 b3 l0 l1 l2 0 1 + 1 * V_ b0 b1 b2 b3 l0 l1 l2 0 2 = (1 * l0 * l1) * V_ b0 b1 b2 b3 l0 l1 l2 2 0 := M2 b0 b1 b2 b3 l0 l1 l2 0 (by decide)
  have m1 : p20 b0 b1 l0 * V_ b0 b1 b2 b3 l0 l1 l2 0 1 + p21 b0 b1 * V_ b0 b1 b2 b3 l0 l1 l2 0 2 + 1 * V_ b0 b1 b2 b3 l0 l1 l2 0 3 = (1 * l0 * l1) * V_ b0 b1 b2 b3 l0 l1 l2 2 1 := M2 b0 b1 b2 b3 l0 l1 l2 1 (by decide)
  have m2 : p20 b0 b1 l0 * V_ b0 b1 b2 b3 l0 l1 l2 0 2 + p21 b0 b1 * V_ b0 b1 b2 b3 l0 l1 l2 0 3 + 1 * V_ b0 b1 b2 b3 l0 l1 l2 0 4 = (1 * l0 * l1) * V_ b0 b1 b2 b3 l0 l1 l2 2 2 := M2 b0 b1 b2 b3 l0 l1 l2 2 (by decide)
  have n := n22 b0 b1 b2 b3 l0 l1 l2
  generalize V_ b0 b1 b2 b3 l0 l1 l2 0 = g0 at m0 m1 m2 n ⊢
  generalize V_ b0 b1 b2 b3 l0 l1 l2 2 = g1 at m0 m1 m2 n ⊢
  exact tot22 (p20 b0 b1 l0) (p21 b0 b1) (p20 b0 b1 l0) (p21 b0 b1) (g0 0) (g0 1) (g0 2) (g0 3) (g0 4) (g1 0) (g1 1) (g1 2) ((1 * l0 * l1)) 1 m0 m1 m2 n
theorem tl30 : totalL [b0, b1, b2, b3] [l0, l1, l2] 3 0 = (0 + p30 b0 b1 b2 l0 l1 * 1) * V_ b0 b1 b2 b3 l0 l1 l2 0 0 + ((0 + p31 b0 b1 b2 l0 l1 * 1) * V_ b0 b1 b2 b3 l0 l1 l2 0 1 + ((0 + p32 b0 b1 b2 * 1) * V_ b0 b1 b2 b3 l0 l1 l2 0 2 + ((0 + 1 * 1) * V_ b0 b1 b2 b3 l0 l1 l2 0 3 + 0))) := by
  have h : mulL (rowAt [b0, b1, b2, b3] [l0, l1, l2] 3) (rowAt [b0, b1, b2, b3] [l0, l1, l2] 0) = [0 + p30 b0 b1 b2 l0 l1 * 1, 0 + p31 b0 b1 b2 l0 l1 * 1, 0 + p32 b0 b1 b2 * 1, 0 + 1 * 1] := by rw [row_3 b0 b1 b2 b3 l0 l1 l2, row_0 b0 b1 b2 b3 l0 l1 l2]; exact mm30 (p30 b0 b1 b2 l0 l1) (p31 b0 b1 b2 l0 l1) (p32 b0 b1 b2)
  rw [total_of h (Nat.le_of_ble_eq_true rfl) (ways_V b0 b1 b2 b3 l0 l1 l2)]
  exact sum_4 (0 + p30 b0 b1 b2 l0 l1 * 1) (0 + p31 b0 b1 b2 l0 l1 * 1) (0 + p32 b0 b1 b2 * 1) (0 + 1 * 1) (V_ b0 b1 b2 b3 l0 l1 l2 0)
theorem total30 : totalL [b0, b1, b2, b3] [l0, l1, l2] 3 0 = 1 * 0 := by
  rw [tl30]
  have m0 : 1 * V_ b0 b1 b2 b3 l0 l1 l2 0 0 = 1 * V_ b0 b1 b2 b3 l0 l1 l2 0 0 := M0 b0 b1 b2 b3 l0 l1 l2 0
  have m1 : 1 * V_ b0 b1 b2 b3 l0 l1 l2 0 1 = 1 * V_ b0 b1 b2 b3 l0 l1 l2 0 1 := M0 b0 b1 b2 b3 l0 l1 l2 1
  have m2 : 1 * V_ b0 b1 b2 b3 l0 l1 l2 0 2 = 1 * V_ b0 b1 b2 b3 l0 l1 l2 0 2 := M0 b0 b1 b2 b3 l0 l1 l2 2
  have m3 : 1 * V_ b0 b1 b2 b3 l0 l1 l2 0 3 = 1 * V_ b0 b1 b2 b3 l0 l1 l2 0 3 := M0 b0 b1 b2 b3 l0 l1 l2 3
  have n := n30 b0 b1 b2 b3 l0 l1 l2
  generalize V_ b0 b1 b2 b3 l0 l1 l2 0 = g0 at m0 m1 m2 m3 n ⊢
  exact tot30 (p30 b0 b1 b2 l0 l1) (p31 b0 b1 b2 l0 l1) (p32 b0 b1 b2) (g0 0) (g0 1) (g0 2) (g0 3) (g0 0) (g0 1) (g0 2) (g0 3) (1) 0 m0 m1 m2 m3 n
theorem tl31 : totalL [b0, b1, b2, b3] [l0, l1, l2] 3 1 = (0 + p30 b0 b1 b2 l0 l1 * (0 - b0)) * V_ b0 b1 b2 b3 l0 l1 l2 0 0 + ((0 + p30 b0 b1 b2 l0 l1 * 1 + p31 b0 b1 b2 l0 l1 * (0 - b0)) * V_ b0 b1 b2 b3 l0 l1 l2 0 1 + ((0 + p31 b0 b1 b2 l0 l1 * 1 + p32 b0 b1 b2 * (0 - b0)) * V_ b0 b1 b2 b3 l0 l1 l2 0 2 + ((0 + p32 b0 b1 b2 * 1 + 1 * (0 - b0)) * V_ b0 b1 b2 b3 l0 l1 l2 0 3 + ((0 + 1 * 1) * V_ b0 b1 b2 b3 l0 l1 l2 0 4 + 0)))) := by
  have h : mulL (rowAt [b0, b1, b2, b3] [l0, l1, l2] 3) (rowAt [b0, b1, b2, b3] [l0, l1, l2] 1) = [0 + p30 b0 b1 b2 l0 l1 * (0 - b0), 0 + p30 b0 b1 b2 l0 l1 * 1 + p31 b0 b1 b2 l0 l1 * (0 - b0), 0 + p31 b0 b1 b2 l0 l1 * 1 + p32 b0 b1 b2 * (0 - b0), 0 + p32 b0 b1 b2 * 1 + 1 * (0 - b0), 0 + 1 * 1] := by rw [row_3 b0 b1 b2 b3 l0 l1 l2, row_1 b0 b1 b2 b3 l0 l1 l2]; exact mm31 (p30 b0 b1 b2 l0 l1) (p31 b0 b1 b2 l0 l1) (p32 b0 b1 b2) (0 - b0)
  rw [total_of h (Nat.le_of_ble_eq_true rfl) (ways_V b0 b1 b2 b3 l0 l1 l2)]
  exact sum_5 (0 + p30 b0 b1 b2 l0 l1 * (0 - b0)) (0 + p30 b0 b1 b2 l0 l1 * 1 + p31 b0 b1 b2 l0 l1 * (0 - b0)) (0 + p31 b0 b1 b2 l0 l1 * 1 + p32 b0 b1 b2 * (0 - b0)) (0 + p32 b0 b1 b2 * 1 + 1 * (0 - b0)) (0 + 1 * 1) (V_ b0 b1 b2 b3 l0 l1 l2 0)
theorem total31 : totalL [b0, b1, b2, b3] [l0, l1, l2] 3 1 = (1 * l0) * 0 := by
  rw [tl31]
  have m0 : (0 - b0) * V_ b0 b1 b2 b3 l0 l1 l2 0 0 + 1 * V_ b0 b1 b2 b3 l0 l1 l2 0 1 = (1 * l0) * V_ b0 b1 b2 b3 l0 l1 l2 1 0 := M1 b0 b1 b2 b3 l0 l1 l2 0 (by decide)
  have m1 : (0 - b0) * V_ b0 b1 b2 b3 l0 l1 l2 0 1 + 1 * V_ b0 b1 b2 b3 l0 l1 l2 0 2 = (1 * l0) * V_ b0 b1 b2 b3 l0 l1 l2 1 1 := M1 b0 b1 b2 b3 l0 l1 l2 1 (by decide)
  have m2 : (0 - b0) * V_ b0 b1 b2 b3 l0 l1 l2 0 2 + 1 * V_ b0 b1 b2 b3 l0 l1 l2 0 3 = (1 * l0) * V_ b0 b1 b2 b3 l0 l1 l2 1 2 := M1 b0 b1 b2 b3 l0 l1 l2 2 (by decide)
  have m3 : (0 - b0) * V_ b0 b1 b2 b3 l0 l1 l2 0 3 + 1 * V_ b0 b1 b2 b3 l0 l1 l2 0 4 = (1 * l0) * V_ b0 b1 b2 b3 l0 l1 l2 1 3 := M1 b0 b1 b2 b3 l0 l1 l2 3 (by decide)
  have n := n31 b0 b1 b2 b3 l0 l1 l2
  generalize V_ b0 b1 b2 b3 l0 l1 l2 0 = g0 at m0 m1 m2 m3 n ⊢
  generalize V_ b0 b1 b2 b3 l0 l1 l2 1 = g1 at m0 m1 m2 m3 n ⊢
  exact tot31 (p30 b0 b1 b2 l0 l1) (p31 b0 b1 b2 l0 l1) (p32 b0 b1 b2) (0 - b0) (g0 0) (g0 1) (g0 2) (g0 3) (g0 4) (g1 0) (g1 1) (g1 2) (g1 3) ((1 * l0)) 0 m0 m1 m2 m3 n
theorem tl32 : totalL [b0, b1, b2, b3] [l0, l1, l2] 3 2 = (0 + p30 b0 b1 b2 l0 l1 * p20 b0 b1 l0) * V_ b0 b1 b2 b3 l0 l1 l2 0 0 + ((0 + p30 b0 b1 b2 l0 l1 * p21 b0 b1 + p31 b0 b1 b2 l0 l1 * p20 b0 b1 l0) * V_ b0 b1 b2 b3 l0 l1 l2 0 1 + ((0 + p30 b0 b1 b2 l0 l1 * 1 + p31 b0 b1 b2 l0 l1 * p21 b0 b1 + p32 b0 b1 b2 * p20 b0 b1 l0) * V_ b0 b1 b2 b3 l0 l1 l2 0 2 + ((0 + p31 b0 b1 b2 l0 l1 * 1 + p32 b0 b1 b2 * p21 b0 b1 + 1 * p20 b0 b1 l0) * V_ b0 b1 b2 b3 l0 l1 l2 0 3 + ((0 + p32 b0 b1 b2 * 1 + 1 * p21 b0 b1) * V_ b0 b1 b2 b3 l0 l1 l2 0 4 + ((0 + 1 * 1) * V_ b0 b1 b2 b3 l0 l1 l2 0 5 + 0))))) := by
  have h : mulL (rowAt [b0, b1, b2, b3] [l0, l1, l2] 3) (rowAt [b0, b1, b2, b3] [l0, l1, l2] 2) = [0 + p30 b0 b1 b2 l0 l1 * p20 b0 b1 l0, 0 + p30 b0 b1 b2 l0 l1 * p21 b0 b1 + p31 b0 b1 b2 l0 l1 * p20 b0 b1 l0, 0 + p30 b0 b1 b2 l0 l1 * 1 + p31 b0 b1 b2 l0 l1 * p21 b0 b1 + p32 b0 b1 b2 * p20 b0 b1 l0, 0 + p31 b0 b1 b2 l0 l1 * 1 + p32 b0 b1 b2 * p21 b0 b1 + 1 * p20 b0 b1 l0, 0 + p32 b0 b1 b2 * 1 + 1 * p21 b0 b1, 0 + 1 * 1] := by rw [row_3 b0 b1 b2 b3 l0 l1 l2, row_2 b0 b1 b2 b3 l0 l1 l2]; exact mm32 (p30 b0 b1 b2 l0 l1) (p31 b0 b1 b2 l0 l1) (p32 b0 b1 b2) (p20 b0 b1 l0) (p21 b0 b1)
  rw [total_of h (Nat.le_of_ble_eq_true rfl) (ways_V b0 b1 b2 b3 l0 l1 l2)]
  exact sum_6 (0 + p30 b0 b1 b2 l0 l1 * p20 b0 b1 l0) (0 + p30 b0 b1 b2 l0 l1 * p21 b0 b1 + p31 b0 b1 b2 l0 l1 * p20 b0 b1 l0) (0 + p30 b0 b1 b2 l0 l1 * 1 + p31 b0 b1 b2 l0 l1 * p21 b0 b1 + p32 b0 b1 b2 * p20 b0 b1 l0) (0 + p31 b0 b1 b2 l0 l1 * 1 + p32 b0 b1 b2 * p21 b0 b1 + 1 * p20 b0 b1 l0) (0 + p32 b0 b1 b2 * 1 + 1 * p21 b0 b1) (0 + 1 * 1) (V_ b0 b1 b2 b3 l0 l1 l2 0)
theorem total32 : totalL [b0, b1, b2, b3] [l0, l1, l2] 3 2 = (1 * l0 * l1) * 0 := by
  rw [tl32]
  have m0 : p20 b0 b1 l0 * V_ b0 b1 b2 b3 l0 l1 l2 0 0 + p21 b0 b1 * V_ b0 b1 b2 b3 l0 l1 l2 0 1 + 1 * V_ b0 b1 b2 b3 l0 l1 l2 0 2 = (1 * l0 * l1) * V_ b0 b1 b2 b3 l0 l1 l2 2 0 := M2 b0 b1 b2 b3 l0 l1 l2 0 (by decide)
  have m1 : p20 b0 b1 l0 * V_ b0 b1 b2 b3 l0 l1 l2 0 1 + p21 b0 b1 * V_ b0 b1 b2 b3 l0 l1 l2 0 2 + 1 * V_ b0 b1 b2 b3 l0 l1 l2 0 3 = (1 * l0 * l1) * V_ b0 b1 b2 b3 l0 l1 l2 2 1 := M2 b0 b1 b2 b3 l0 l1 l2 1 (by decide)
  have m2 : p20 b0 b1 l0 * V_ b0 b1 b2 b3 l0 l1 l2 0 2 + p21 b0 b1 * V_ b0 b1 b2 b3 l0 l1 l2 0 3 + 1 * V_ b0 b1 b2 b3 l0 l1 l2 0 4 = (1 * l0 * l1) * V_ b0 b1 b2 b3 l0 l1 l2 2 2 := M2 b0 b1 b2 b3 l0 l1 l2 2 (by decide)
  have m3 : p20 b0 b1 l0 * V_ b0 b1 b2 b3 l0 l1 l2 0 3 + p21 b0 b1 * V_ b0 b1 b2 b3 l0 l1 l2 0 4 + 1 * V_ b0 b1 b2 b3 l0 l1 l2 0 5 = (1 * l0 * l1) * V_ b0 b1 b2 b3 l0 l1 l2 2 3 := M2 b0 b1 b2 b3 l0 l1 l2 3 (by decide)
  have n := n32 b0 b1 b2 b3 l0 l1 l2
  generalize V_ b0 b1 b2 b3 l0 l1 l2 0 = g0 at m0 m1 m2 m3 n ⊢
  generalize V_ b0 b1 b2 b3 l0 l1 l2 2 = g1 at m0 m1 m2 m3 n ⊢
  exact tot32 (p30 b0 b1 b2 l0 l1) (p31 b0 b1 b2 l0 l1) (p32 b0 b1 b2) (p20 b0 b1 l0) (p21 b0 b1) (g0 0) (g0 1) (g0 2) (g0 3) (g0 4) (g0 5) (g1 0) (g1 1) (g1 2) (g1 3) ((1 * l0 * l1)) 0 m0 m1 m2 m3 n
theorem tl33 : totalL [b0, b1, b2, b3] [l0, l1, l2] 3 3 = (0 + p30 b0 b1 b2 l0 l1 * p30 b0 b1 b2 l0 l1) * V_ b0 b1 b2 b3 l0 l1 l2 0 0 + ((0 + p30 b0 b1 b2 l0 l1 * p31 b0 b1 b2 l0 l1 + p31 b0 b1 b2 l0 l1 * p30 b0 b1 b2 l0 l1) * V_ b0 b1 b2 b3 l0 l1 l2 0 1 + ((0 + p30 b0 b1 b2 l0 l1 * p32 b0 b1 b2 + p31 b0 b1 b2 l0 l1 * p31 b0 b1 b2 l0 l1 + p32 b0 b1 b2 * p30 b0 b1 b2 l0 l1) * V_ b0 b1 b2 b3 l0 l1 l2 0 2 + ((0 + p30 b0 b1 b2 l0 l1 * 1 + p31 b0 b1 b2 l0 l1 * p32 b0 b1 b2 + p32 b0 b1 b2 * p31 b0 b1 b2 l0 l1 + 1 * p30 b0 b1 b2 l0 l1) * V_ b0 b1 b2 b3 l0 l1 l2 0 3 + ((0 + p31 b0 b1 b2 l0 l1 * 1 + p32 b0 b1 b2 * p32 b0 b1 b2 + 1 * p31 b0 b1 b2 l0 l1) * V_ b0 b1 b2 b3 l0 l1 l2 0 4 + ((0 + p32 b0 b1 b2 * 1 + 1 * p32 b0 b1 b2) * V_ b0 b1 b2 b3 l0 l1 l2 0 5 + ((0 + 1 * 1) * V_ b0 b1 b2 b3 l0 l1 l2 0 6 + 0)))))) := by
  have h : mulL (rowAt [b0, b1, b2, b3] [l0, l1, l2] 3) (rowAt [b0, b1, b2, b3] [l0, l1, l2] 3) = [0 + p30 b0 b1 b2 l0 l1 * p30 b0 b1 b2 l0 l1, 0 + p30 b0 b1 b2 l0 l1 * p31 b0 b1 b2 l0 l1 + p31 b0 b1 b2 l0 l1 * p30 b0 b1 b2 l0 l1, 0 + p30 b0 b1 b2 l0 l1 * p32 b0 b1 b2 + p31 b0 b1 b2 l0 l1 * p31 b0 b1 b2 l0 l1 + p32 b0 b1 b2 * p30 b0 b1 b2 l0 l1, 0 + p30 b0 b1 b2 l0 l1 * 1 + p31 b0 b1 b2 l0 l1 * p32 b0 b1 b2 + p32 b0 b1 b2 * p31 b0 b1 b2 l0 l1 + 1 * p30 b0 b1 b2 l0 l1, 0 + p31 b0 b1 b2 l0 l1 * 1 + p32 b0 b1 b2 * p32 b0 b1 b2 + 1 * p31 b0 b1 b2 l0 l1, 0 + p32 b0 b1 b2 * 1 + 1 * p32 b0 b1 b2, 0 + 1 * 1] := by rw [row_3 b0 b1 b2 b3 l0 l1 l2]; exact mm33 (p30 b0 b1 b2 l0 l1) (p31 b0 b1 b2 l0 l1) (p32 b0 b1 b2) (p30 b0 b1 b2 l0 l1) (p31 b0 b1 b2 l0 l1) (p32 b0 b1 b2)
  rw [total_of h (Nat.le_of_ble_eq_true rfl) (ways_V b0 b1 b2 b3 l0 l1 l2)]
  exact sum_7 (0 + p30 b0 b1 b2 l0 l1 * p30 b0 b1 b2 l0 l1) (0 + p30 b0 b1 b2 l0 l1 * p31 b0 b1 b2 l0 l1 + p31 b0 b1 b2 l0 l1 * p30 b0 b1 b2 l0 l1) (0 + p30 b0 b1 b2 l0 l1 * p32 b0 b1 b2 + p31 b0 b1 b2 l0 l1 * p31 b0 b1 b2 l0 l1 + p32 b0 b1 b2 * p30 b0 b1 b2 l0 l1) (0 + p30 b0 b1 b2 l0 l1 * 1 + p31 b0 b1 b2 l0 l1 * p32 b0 b1 b2 + p32 b0 b1 b2 * p31 b0 b1 b2 l0 l1 + 1 * p30 b0 b1 b2 l0 l1) (0 + p31 b0 b1 b2 l0 l1 * 1 + p32 b0 b1 b2 * p32 b0 b1 b2 + 1 * p31 b0 b1 b2 l0 l1) (0 + p32 b0 b1 b2 * 1 + 1 * p32 b0 b1 b2) (0 + 1 * 1) (V_ b0 b1 b2 b3 l0 l1 l2 0)
theorem total33 : totalL [b0, b1, b2, b3] [l0, l1, l2] 3 3 = (1 * l0 * l1 * l2) * 1 := by
  rw [tl33]
  have m0 : p30 b0 b1 b2 l0 l1 * V_ b0 b1 b2 b3 l0 l1 l2 0 0 + p31 b0 b1 b2 l0 l1 * V_ b0 b1 b2 b3 l0 l1 l2 0 1 + p32 b0 b1 b2 * V_ b0 b1 b2 b3 l0 l1 l2 0 2 + 1 * V_ b0 b1 b2 b3 l0 l1 l2 0 3 = (1 * l0 * l1 * l2) * V_ b0 b1 b2 b3 l0 l1 l2 3 0 := M3 b0 b1 b2 b3 l0 l1 l2 0 (by decide)
  have m1 : p30 b0 b1 b2 l0 l1 * V_ b0 b1 b2 b3 l0 l1 l2 0 1 + p31 b0 b1 b2 l0 l1 * V_ b0 b1 b2 b3 l0 l1 l2 0 2 + p32 b0 b1 b2 * V_ b0 b1 b2 b3 l0 l1 l2 0 3 + 1 * V_ b0 b1 b2 b3 l0 l1 l2 0 4 = (1 * l0 * l1 * l2) * V_ b0 b1 b2 b3 l0 l1 l2 3 1 := M3 b0 b1 b2 b3 l0 l1 l2 1 (by decide)
  have m2 : p30 b0 b1 b2 l0 l1 * V_ b0 b1 b2 b3 l0 l1 l2 0 2 + p31 b0 b1 b2 l0 l1 * V_ b0 b1 b2 b3 l0 l1 l2 0 3 + p32 b0 b1 b2 * V_ b0 b1 b2 b3 l0 l1 l2 0 4 + 1 * V_ b0 b1 b2 b3 l0 l1 l2 0 5 = (1 * l0 * l1 * l2) * V_ b0 b1 b2 b3 l0 l1 l2 3 2 := M3 b0 b1 b2 b3 l0 l1 l2 2 (by decide)
  have m3 : p30 b0 b1 b2 l0 l1 * V_ b0 b1 b2 b3 l0 l1 l2 0 3 + p31 b0 b1 b2 l0 l1 * V_ b0 b1 b2 b3 l0 l1 l2 0 4 + p32 b0 b1 b2 * V_ b0 b1 b2 b3 l0 l1 l2 0 5 + 1 * V_ b0 b1 b2 b3 l0 l1 l2 0 6 = (1 * l0 * l1 * l2) * V_ b0 b1 b2 b3 l0 l1 l2 3 3 := M3 b0 b1 b2 b3 l0 l1 l2 3 (by decide)
  have n := n33 b0 b1 b2 b3 l0 l1 l2
  generalize V_ b0 b1 b2 b3 l0 l1 l2 0 = g0 at m0 m1 m2 m3 n ⊢
  generalize V_ b0 b1 b2 b3 l0 l1 l2 3 = g1 at m0 m1 m2 m3 n ⊢
  exact tot33 (p30 b0 b1 b2 l0 l1) (p31 b0 b1 b2 l0 l1) (p32 b0 b1 b2) (p30 b0 b1 b2 l0 l1) (p31 b0 b1 b2 l0 l1) (p32 b0 b1 b2) (g0 0) (g0 1) (g0 2) (g0 3) (g0 4) (g0 5) (g0 6) (g1 0) (g1 1) (g1 2) (g1 3) ((1 * l0 * l1 * l2)) 1 m0 m1 m2 m3 n
theorem totals : ∀ i j, i < 4 → j ≤ i → totalL [b0, b1, b2, b3] [l0, l1, l2] i j = if i = j then worthL [l0, l1, l2] i else 0 := fun i j hi hj => by
  match i, j, hi, hj with
  | 0, 0, _, _ => rw [total00]; rw [if_pos rfl, Int.mul_one]; rfl
  | 1, 0, _, _ => rw [total10]; rw [if_neg (by decide), Int.mul_zero]
  | 1, 1, _, _ => rw [total11]; rw [if_pos rfl, Int.mul_one]; rfl
  | 2, 0, _, _ => rw [total20]; rw [if_neg (by decide), Int.mul_zero]
  | 2, 1, _, _ => rw [total21]; rw [if_neg (by decide), Int.mul_zero]
  | 2, 2, _, _ => rw [total22]; rw [if_pos rfl, Int.mul_one]; rfl
  | 3, 0, _, _ => rw [total30]; rw [if_neg (by decide), Int.mul_zero]
  | 3, 1, _, _ => rw [total31]; rw [if_neg (by decide), Int.mul_zero]
  | 3, 2, _, _ => rw [total32]; rw [if_neg (by decide), Int.mul_zero]
  | 3, 3, _, _ => rw [total33]; rw [if_pos rfl, Int.mul_one]; rfl
end
end Mine
end
section
open PySem PySem.W
namespace Mine
theorem invE_grow {xs L : List Int} {A n : Nat} (h0 : 0 < n) (hx : ∀ k, 0 < k → k ≤ n → (xs.getD k 0).natAbs ≤ A ^ k) (hL : ∀ k, k < n → (L.getD k 0).natAbs ≤ (2 * A) ^ k) : ∀ s, s ≤ n → (invE xs L n s).natAbs + A ^ n * 2 ^ (n - s) ≤ A ^ n * 2 ^ n
  | 0, _ => by
    rw [invE, if_neg (by (first | lia | omega))]
    simp
  | s + 1, h => by
    have ih := invE_grow h0 hx hL s (by (first | lia | omega))
    have h1 := hx (s + 1) (by (first | lia | omega)) h
    have h2 := hL (n - (s + 1)) (by (first | lia | omega))
    have h3 : (xs.getD (s + 1) 0 * L.getD (n - (s + 1)) 0).natAbs ≤ A ^ n * 2 ^ (n - (s + 1)) := by
      rw [Int.natAbs_mul]
      refine Nat.le_trans (Nat.mul_le_mul h1 h2) ?_
      rw [Nat.mul_pow, Nat.mul_comm (2 ^ _), ← Nat.mul_assoc, ← Nat.pow_add, show s + 1 + (n - (s + 1)) = n by (first | lia | omega)]
      exact Nat.le_refl _
    have h4 : A ^ n * 2 ^ (n - s) = A ^ n * 2 ^ (n - (s + 1)) + A ^ n * 2 ^ (n - (s + 1)) := by
      rw [show n - s = (n - (s + 1)) + 1 by (first | lia | omega), Nat.pow_succ, ← Nat.mul_assoc]; (first | lia | omega)
    have h5 := Int.natAbs_sub_le (invE xs L n s) (xs.getD (s + 1) 0 * L.getD (n - (s + 1)) 0)
    rw [invE]; (first | lia | omega)
theorem invL_grow {xs : List Int} {A m : Nat} (hx : ∀ k, 0 < k → k < m → (xs.getD k 0).natAbs ≤ A ^ k) : ∀ N n, n < N → n < m → ((invL xs m).getD n 0).natAbs ≤ (2 * A) ^ n
  | 0, n, h, _ => absurd h (Nat.not_lt_zero n)
  | N + 1, n, h, hm => by
    rw [invL_getD xs hm]
    rcases Nat.eq_zero_or_pos n with rfl | h0
    · simp [invE]
    · have := invE_grow (L := invL xs n) h0 (fun k h1 h2 => hx k h1 (by (first | lia | omega))) (fun k hk => by
        rw [invL_agree xs (Nat.le_of_lt hm) hk]
        exact invL_grow hx N k (by (first | lia | omega)) (by (first | lia | omega))) n (Nat.le_refl _)
      rw [Nat.mul_pow, Nat.mul_comm (2 ^ n)]; (first | lia | omega)
theorem low_grow {b d : Int} {T : List Int} {B : Nat} (hb : b.natAbs ≤ 2) (hd : d.natAbs ≤ 3) (hB : 2 ≤ B) (hT : ∀ n, n < 8 → (T.getD n 0).natAbs ≤ B ^ n) : ∀ k, 0 < k → k < 8 → ((1 :: (0 - b) :: lowL d T).getD k 0).natAbs ≤ B ^ k := fun k h0 h8 => by
  match k, h0 with
  | 1, _ =>
    show (0 - b).natAbs ≤ B ^ 1
    rw [Nat.pow_one]; (first | lia | omega)
  | k + 2, _ =>
    have e : (1 :: (0 - b) :: lowL d T).getD (k + 2) 0 = (lowL d T).getD k 0 := rfl
    rw [e, lowL, List.getD_eq_getElem?_getD, List.getElem?_map, List.getElem?_take, if_pos (by (first | lia | omega))]
    have hTk := hT k (by (first | lia | omega))
    rw [List.getD_eq_getElem?_getD] at hTk
    cases q : T[k]? with
    | none => simp
    | some x =>
      rw [q] at hTk
      show ((0 - d) * x).natAbs ≤ _
      rw [Int.natAbs_mul, Nat.pow_add, Nat.mul_comm]
      have h4 : 4 ≤ B ^ 2 := Nat.pow_le_pow_left hB 2
      refine Nat.mul_le_mul hTk (Nat.le_trans ?_ h4)
      (first | lia | omega)
section
variable {b0 b1 b2 b3 l0 l1 l2 : Int}
theorem Tn_grow (h0 : b0.natAbs ≤ 2) (h1 : b1.natAbs ≤ 2) (h2 : b2.natAbs ≤ 2) (h3 : b3.natAbs ≤ 2) (g0 : l0.natAbs ≤ 3) (g1 : l1.natAbs ≤ 3) (g2 : l2.natAbs ≤ 3) :
    ∀ i, i < 4 → ∀ n, n < 8 → ((Tn [b0, b1, b2, b3] [l0, l1, l2] i).getD n 0).natAbs ≤ 32 ^ n := by
  have e3 : ∀ n, n < 8 → ((Tn [b0, b1, b2, b3] [l0, l1, l2] 0).getD n 0).natAbs ≤ 4 ^ n := fun n hn => invL_grow (A := 2) (fun k k0 k8 => by
    match k, k0 with
    | 1, _ =>
      show (0 - b3).natAbs ≤ 2 ^ 1
      (first | lia | omega)
    | k + 2, _ =>
      have e : (1 :: (0 - b3) :: List.replicate 6 0).getD (k + 2) 0 = (List.replicate 6 (0 : Int)).getD k 0 := rfl
      show ((1 :: (0 - b3) :: List.replicate 6 0).getD (k + 2) 0).natAbs ≤ _
      rw [e, List.getD_eq_getElem?_getD, List.getElem?_replicate, if_pos (by (first | lia | omega))]
      simp) 8 n hn hn
  have e2 : ∀ n, n < 8 → ((Tn [b0, b1, b2, b3] [l0, l1, l2] 1).getD n 0).natAbs ≤ 8 ^ n := fun n hn => invL_grow (A := 4) (low_grow h2 g2 (by decide) e3) 8 n hn hn
  have e1 : ∀ n, n < 8 → ((Tn [b0, b1, b2, b3] [l0, l1, l2] 2).getD n 0).natAbs ≤ 16 ^ n := fun n hn => invL_grow (A := 8) (low_grow h1 g1 (by decide) e2) 8 n hn hn
  have e0 : ∀ n, n < 8 → ((Tn [b0, b1, b2, b3] [l0, l1, l2] 3).getD n 0).natAbs ≤ 32 ^ n := fun n hn => invL_grow (A := 16) (low_grow h0 g0 (by decide) e1) 8 n hn hn
  intro i hi n hn
  match i with
  | 0 => exact Nat.le_trans (e3 n hn) (Nat.pow_le_pow_left (by decide) n)
  | 1 => exact Nat.le_trans (e2 n hn) (Nat.pow_le_pow_left (by decide) n)
  | 2 => exact Nat.le_trans (e1 n hn) (Nat.pow_le_pow_left (by decide) n)
  | 3 => exact e0 n hn
theorem Tn_sz (h0 : b0.natAbs ≤ 2) (h1 : b1.natAbs ≤ 2) (h2 : b2.natAbs ≤ 2) (h3 : b3.natAbs ≤ 2) (g0 : l0.natAbs ≤ 3) (g1 : l1.natAbs ≤ 3) (g2 : l2.natAbs ≤ 3) (i : Nat) (hi : i < 4) : SzL 64 (Tn [b0, b1, b2, b3] [l0, l1, l2] i) := fun n => by
  rcases Nat.lt_or_ge n 8 with h | h
  · have a := Tn_grow h0 h1 h2 h3 g0 g1 g2 i hi n h
    have b : 32 ^ n ≤ 32 ^ 7 := Nat.pow_le_pow_right (by decide) (by (first | lia | omega))
    have c : 32 ^ 7 < 2 ^ 64 := by decide
    exact Nat.lt_of_le_of_lt (Nat.le_trans a b) c
  · rw [getD_out (by rw [Tn_len]; (first | lia | omega))]; exact Sz.zero
end
end Mine
end
section
open PySem PySem.W
namespace Mine
theorem sz_of {x : Int} {k n : Nat} (h : x.natAbs ≤ n) (hk : n < 2 ^ k) : Sz k x := Nat.lt_of_le_of_lt h hk
theorem szl_cons {k : Nat} {x : Int} {xs : List Int} (h : Sz k x) (hs : SzL k xs) : SzL k (x :: xs) := fun i => by
  cases i with
  | zero => exact h
  | succ i => exact hs i
section
variable {b0 b1 b2 b3 l0 l1 l2 : Int}
theorem s20 (h0 : Sz 2 b0) (h1 : Sz 2 b1) (g0 : Sz 2 l0) : Sz 5 (p20 b0 b1 l0) := Sz.sub (Sz.mul h0 h1) g0.le
theorem s21 (h0 : Sz 2 b0) (h1 : Sz 2 b1) : Sz 3 (p21 b0 b1) := Sz.sub h0.neg h1
theorem s30 (h0 : Sz 2 b0) (h1 : Sz 2 b1) (h2 : Sz 2 b2) (g0 : Sz 2 l0) (g1 : Sz 2 l1) : Sz 8 (p30 b0 b1 b2 l0 l1) := Sz.add (Sz.mul h2.neg (s20 h0 h1 g0)) ((Sz.mul g1 h0).le)
theorem s31 (h0 : Sz 2 b0) (h1 : Sz 2 b1) (h2 : Sz 2 b2) (g0 : Sz 2 l0) (g1 : Sz 2 l1) : Sz 7 (p31 b0 b1 b2 l0 l1) := Sz.sub (Sz.sub (s20 h0 h1 g0) (Sz.mul h2 (s21 h0 h1))) g1.le
theorem s32 (h0 : Sz 2 b0) (h1 : Sz 2 b1) (h2 : Sz 2 b2) : Sz 4 (p32 b0 b1 b2) := Sz.sub (s21 h0 h1) h2.le
theorem s40 (h0 : Sz 2 b0) (h1 : Sz 2 b1) (h2 : Sz 2 b2) (h3 : Sz 2 b3) (g0 : Sz 2 l0) (g1 : Sz 2 l1) (g2 : Sz 2 l2) : Sz 12 (p40 b0 b1 b2 b3 l0 l1 l2) := (Sz.sub (Sz.mul h3.neg (s30 h0 h1 h2 g0 g1)) ((Sz.mul g2 (s20 h0 h1 g0)).le)).le
theorem s41 (h0 : Sz 2 b0) (h1 : Sz 2 b1) (h2 : Sz 2 b2) (h3 : Sz 2 b3) (g0 : Sz 2 l0) (g1 : Sz 2 l1) (g2 : Sz 2 l2) : Sz 12 (p41 b0 b1 b2 b3 l0 l1 l2) := (Sz.sub (Sz.sub ((s30 h0 h1 h2 g0 g1).le (m := 9)) (Sz.mul h3 (s31 h0 h1 h2 g0 g1))) ((Sz.mul g2 (s21 h0 h1)).le)).le
theorem s42 (h0 : Sz 2 b0) (h1 : Sz 2 b1) (h2 : Sz 2 b2) (h3 : Sz 2 b3) (g0 : Sz 2 l0) (g1 : Sz 2 l1) (g2 : Sz 2 l2) : Sz 12 (p42 b0 b1 b2 b3 l0 l1 l2) := (Sz.sub (Sz.sub (s31 h0 h1 h2 g0 g1) ((Sz.mul h3 (s32 h0 h1 h2)).le)) g2.le).le
theorem s43 (h0 : Sz 2 b0) (h1 : Sz 2 b1) (h2 : Sz 2 b2) (h3 : Sz 2 b3) : Sz 12 (p43 b0 b1 b2 b3) := (Sz.sub (s32 h0 h1 h2) h3.le).le
theorem lawOK (h0 : b0.natAbs ≤ 2) (h1 : b1.natAbs ≤ 2) (h2 : b2.natAbs ≤ 2) (h3 : b3.natAbs ≤ 2) (g0 : l0.natAbs ≤ 3) (g1 : l1.natAbs ≤ 3) (g2 : l2.natAbs ≤ 3)
    (tot : ∀ i j, i < 4 → j ≤ i → totalL [b0, b1, b2, b3] [l0, l1, l2] i j = if i = j then worthL [l0, l1, l2] i else 0) : LawOK [b0, b1, b2, b3] [l0, l1, l2] := by
  have a0 : Sz 2 b0 := sz_of h0 (by decide)
  have a1 : Sz 2 b1 := sz_of h1 (by decide)
  have a2 : Sz 2 b2 := sz_of h2 (by decide)
  have a3 : Sz 2 b3 := sz_of h3 (by decide)
  have c0 : Sz 2 l0 := sz_of g0 (by decide)
  have c1 : Sz 2 l1 := sz_of g1 (by decide)
  have c2 : Sz 2 l2 := sz_of g2 (by decide)
  have hcv : (List.range 8).map (conv (Tn [b0, b1, b2, b3] [l0, l1, l2] 3) ((rowAt [b0, b1, b2, b3] [l0, l1, l2] 4).reverse ++ [0, 0, 0])) = (aboveL [b0, b1, b2, b3] [l0, l1, l2]).reverse ++ [0, 0, 0, 0] := by
    rw [above_eq, r4_eq]
    refine ext_getD (by simp) fun n => ?_
    rw [range_getD]
    rcases Nat.lt_or_ge n 8 with h | h
    · rw [if_pos h, conv_S]
      have e1 : EqN 8 (sq ([p40 b0 b1 b2 b3 l0 l1 l2, p41 b0 b1 b2 b3 l0 l1 l2, p42 b0 b1 b2 b3 l0 l1 l2, p43 b0 b1 b2 b3, 1].reverse ++ [0, 0, 0])) (sq [1, p43 b0 b1 b2 b3, p42 b0 b1 b2 b3 l0 l1 l2, p41 b0 b1 b2 b3 l0 l1 l2, p40 b0 b1 b2 b3 l0 l1 l2]) := fun n hn => by
        match n, hn with
        | 0, _ => rfl
        | 1, _ => rfl
        | 2, _ => rfl
        | 3, _ => rfl
        | 4, _ => rfl
        | 5, _ => rfl
        | 6, _ => rfl
        | 7, _ => rfl
      have e2 : EqN 8 (sq [1, p32 b1 b2 b3, p31 b1 b2 b3 l1 l2, p30 b1 b2 b3 l1 l2]) (sq ([p30 b1 b2 b3 l1 l2, p31 b1 b2 b3 l1 l2, p32 b1 b2 b3, 1].reverse ++ [0, 0, 0, 0])) := fun n hn => by
        match n, hn with
        | 0, _ => rfl
        | 1, _ => rfl
        | 2, _ => rfl
        | 3, _ => rfl
        | 4, _ => rfl
        | 5, _ => rfl
        | 6, _ => rfl
        | 7, _ => rfl
      exact (((S_congr (EqN.refl _) e1).trans (cv_S b0 b1 b2 b3 l0 l1 l2)).trans e2) n h
    · rw [if_neg (by (first | lia | omega)), getD_out (by simp; (first | lia | omega))]
  have rowsz : ∀ xs ∈ rowsL [b0, b1, b2, b3] [l0, l1, l2] 3, SzL 400 xs ∧ xs.length ≤ 5 := fun xs hx => by
    rw [rows3] at hx
    simp only [List.mem_cons, List.not_mem_nil, or_false] at hx
    rcases hx with rfl | rfl | rfl | rfl | rfl
    · exact ⟨szl_cons Sz.one SzL.nil, by decide⟩
    · exact ⟨szl_cons ((Sz.sub Sz.zero a0).le) (szl_cons Sz.one SzL.nil), by simp⟩
    · exact ⟨szl_cons (s20 a0 a1 c0).le (szl_cons (s21 a0 a1).le (szl_cons Sz.one SzL.nil)), by simp⟩
    · exact ⟨szl_cons (s30 a0 a1 a2 c0 c1).le (szl_cons (s31 a0 a1 a2 c0 c1).le (szl_cons (s32 a0 a1 a2).le (szl_cons Sz.one SzL.nil))), by simp⟩
    · exact ⟨szl_cons (s40 a0 a1 a2 a3 c0 c1 c2).le (szl_cons (s41 a0 a1 a2 a3 c0 c1 c2).le (szl_cons (s42 a0 a1 a2 a3 c0 c1 c2).le (szl_cons (s43 a0 a1 a2 a3).le (szl_cons Sz.one SzL.nil)))), by simp⟩
  have lrow : ∀ i, i < 4 → (rowAt [b0, b1, b2, b3] [l0, l1, l2] i).length = i + 1 := fun i hi => by
    rw [rowAt, rows3]
    match i, hi with
    | 0, _ => rfl
    | 1, _ => rfl
    | 2, _ => rfl
    | 3, _ => rfl
  have sabove : SzL 12 ((aboveL [b0, b1, b2, b3] [l0, l1, l2]).reverse ++ [0, 0, 0, 0]) := by
    rw [above_eq]
    exact szl_cons Sz.one (szl_cons (s32 a1 a2 a3).le (szl_cons (s31 a1 a2 a3 c1 c2).le (szl_cons (s30 a1 a2 a3 c1 c2).le (szl_cons Sz.zero (szl_cons Sz.zero (szl_cons Sz.zero (szl_cons Sz.zero SzL.nil)))))))
  exact {
    la := rfl
    ld := rfl
    sa := szl_cons a0.le (szl_cons a1.le (szl_cons a2.le (szl_cons a3.le SzL.nil)))
    sd := szl_cons c0.le (szl_cons c1.le (szl_cons c2.le SzL.nil))
    sT := Tn_sz h0 h1 h2 h3 g0 g1 g2
    told := told_ways b0 b1 b2 b3 l0 l1 l2
    rows := rowsz
    rl := fun i j hi hj => by
      have e1 := lrow i hi
      have e2 := lrow j (by (first | lia | omega))
      unfold mulL
      split
      · simp
      · rw [mulO_len, e1, e2]; (first | lia | omega)
    total := tot
    above := fun xs hx => by
      rw [rows2 ([b0, b1, b2, b3].drop 1) ([l0, l1, l2].drop 1) b1 b2 b3 l1 l2 rfl rfl rfl rfl rfl] at hx
      simp only [List.mem_cons, List.not_mem_nil, or_false] at hx
      rcases hx with rfl | rfl | rfl | rfl
      · exact ⟨szl_cons Sz.one SzL.nil, by decide⟩
      · exact ⟨szl_cons ((Sz.sub Sz.zero a1).le) (szl_cons Sz.one SzL.nil), by simp⟩
      · exact ⟨szl_cons (s20 a1 a2 c1).le (szl_cons (s21 a1 a2).le (szl_cons Sz.one SzL.nil)), by simp⟩
      · exact ⟨szl_cons (s30 a1 a2 a3 c1 c2).le (szl_cons (s31 a1 a2 a3 c1 c2).le (szl_cons (s32 a1 a2 a3).le (szl_cons Sz.one SzL.nil))), by simp⟩
    r4 := by rw [r4_eq]; rfl
    a3 := by rw [above_eq]; rfl
    cv := hcv
    sC := fun n hn => by
      have := sabove n
      rw [← hcv, range_getD, if_pos hn] at this
      exact this.le }
end
theorem draw_range (s : List Int) (i : Nat) (m : Int) (h : 0 < m) : 0 ≤ drawV s i m ∧ drawV s i m < m := by
  unfold drawV
  split <;> (rw [Int.fmod_eq_emod_of_nonneg _ (Int.le_of_lt h)]; exact ⟨Int.emod_nonneg _ (by (first | lia | omega)), Int.emod_lt_of_pos _ h⟩)
theorem alL_eq (s : List Int) : alL s 4 = [drawV s 0 5 - 2, drawV s 1 5 - 2, drawV s 2 5 - 2, drawV s 3 5 - 2] := rfl
theorem dnL_eq (s : List Int) : dnL s 3 = [1 + drawV s 4 3, 1 + drawV s 5 3, 1 + drawV s 6 3] := rfl
end Mine
end
section
open PySem PySem.W
namespace Mine
noncomputable def t1 (b0 b1 b2 b3 : Int) : Int := b0 + b1 + b2 + b3
noncomputable def t2 (b0 b1 b2 b3 l0 l1 l2 : Int) : Int := b0 * b0 + b1 * b1 + b2 * b2 + b3 * b3 + 2 * l0 + 2 * l1 + 2 * l2
noncomputable def t3 (b0 b1 b2 b3 l0 l1 l2 : Int) : Int := b0 * (b0 * b0 + l0) + b1 * (l0 + b1 * b1 + l1) + b2 * (l1 + b2 * b2 + l2) + b3 * (l2 + b3 * b3) + 2 * l0 * (b0 + b1) + 2 * l1 * (b1 + b2) + 2 * l2 * (b2 + b3)
noncomputable def t4 (b0 b1 b2 b3 l0 l1 l2 : Int) : Int := (b0 * b0 + l0) * (b0 * b0 + l0) + (l0 + b1 * b1 + l1) * (l0 + b1 * b1 + l1) + (l1 + b2 * b2 + l2) * (l1 + b2 * b2 + l2) + (l2 + b3 * b3) * (l2 + b3 * b3) + 2 * l0 * ((b0 + b1) * (b0 + b1)) + 2 * l1 * ((b1 + b2) * (b1 + b2)) + 2 * l2 * ((b2 + b3) * (b2 + b3)) + 2 * (l0 * l1) + 2 * (l1 * l2)
noncomputable def t5 (b0 b1 b2 b3 l0 l1 l2 : Int) : Int := (b0 * b0 + l0) * ((b0 * b0 + l0) * b0 + b0 * l0 + l0 * b1) + (l0 + b1 * b1 + l1) * ((b0 + b1) * l0 + (l0 + b1 * b1 + l1) * b1 + b1 * l1 + l1 * b2) + (l1 + b2 * b2 + l2) * ((b1 + b2) * l1 + (l1 + b2 * b2 + l2) * b2 + b2 * l2 + l2 * b3) + (l2 + b3 * b3) * ((b2 + b3) * l2 + (l2 + b3 * b3) * b3) + 2 * l0 * ((b0 + b1) * ((b0 + b1) * b0 + l0 + b1 * b1 + l1)) + 2 * l1 * ((b1 + b2) * (l0 + (b1 + b2) * b1 + l1 + b2 * b2 + l2)) + 2 * l2 * ((b2 + b3) * (l1 + (b2 + b3) * b2 + l2 + b3 * b3)) + 2 * (l0 * l1) * (b0 + b1 + b2) + 2 * (l1 * l2) * (b1 + b2 + b3)
noncomputable def t6 (b0 b1 b2 b3 l0 l1 l2 : Int) : Int := ((b0 * b0 + l0) * b0 + b0 * l0 + l0 * b1) * ((b0 * b0 + l0) * b0 + b0 * l0 + l0 * b1) + ((b0 + b1) * l0 + (l0 + b1 * b1 + l1) * b1 + b1 * l1 + l1 * b2) * ((b0 + b1) * l0 + (l0 + b1 * b1 + l1) * b1 + b1 * l1 + l1 * b2) + ((b1 + b2) * l1 + (l1 + b2 * b2 + l2) * b2 + b2 * l2 + l2 * b3) * ((b1 + b2) * l1 + (l1 + b2 * b2 + l2) * b2 + b2 * l2 + l2 * b3) + ((b2 + b3) * l2 + (l2 + b3 * b3) * b3) * ((b2 + b3) * l2 + (l2 + b3 * b3) * b3) + 2 * l0 * (((b0 + b1) * b0 + l0 + b1 * b1 + l1) * ((b0 + b1) * b0 + l0 + b1 * b1 + l1)) + 2 * l1 * ((l0 + (b1 + b2) * b1 + l1 + b2 * b2 + l2) * (l0 + (b1 + b2) * b1 + l1 + b2 * b2 + l2)) + 2 * l2 * ((l1 + (b2 + b3) * b2 + l2 + b3 * b3) * (l1 + (b2 + b3) * b2 + l2 + b3 * b3)) + 2 * (l0 * l1) * ((b0 + b1 + b2) * (b0 + b1 + b2)) + 2 * (l1 * l2) * ((b1 + b2 + b3) * (b1 + b2 + b3)) + 2 * (l0 * l1 * l2)
section
variable (b0 b1 b2 b3 l0 l1 l2 : Int)
theorem nw1 : t1 b0 b1 b2 b3 = -(p43 b0 b1 b2 b3) := by
  simp only [t1, p40, p41, p42, p43, p30, p31, p32, p20, p21]
  grind
theorem nw2 : t2 b0 b1 b2 b3 l0 l1 l2 = -(p43 b0 b1 b2 b3 * t1 b0 b1 b2 b3 + 2 * p42 b0 b1 b2 b3 l0 l1 l2) := by
  simp only [t1, t2, p40, p41, p42, p43, p30, p31, p32, p20, p21]
  grind
theorem nw3 : t3 b0 b1 b2 b3 l0 l1 l2 = -(p43 b0 b1 b2 b3 * t2 b0 b1 b2 b3 l0 l1 l2 + p42 b0 b1 b2 b3 l0 l1 l2 * t1 b0 b1 b2 b3 + 3 * p41 b0 b1 b2 b3 l0 l1 l2) := by
  simp only [t1, t2, t3, p40, p41, p42, p43, p30, p31, p32, p20, p21]
  grind
theorem nw4 : t4 b0 b1 b2 b3 l0 l1 l2 = -(p43 b0 b1 b2 b3 * t3 b0 b1 b2 b3 l0 l1 l2 + p42 b0 b1 b2 b3 l0 l1 l2 * t2 b0 b1 b2 b3 l0 l1 l2 + p41 b0 b1 b2 b3 l0 l1 l2 * t1 b0 b1 b2 b3 + 4 * p40 b0 b1 b2 b3 l0 l1 l2) := by
  simp only [t1, t2, t3, t4, p40, p41, p42, p43, p30, p31, p32, p20, p21]
  grind
theorem nw5 : t5 b0 b1 b2 b3 l0 l1 l2 = -(p43 b0 b1 b2 b3 * t4 b0 b1 b2 b3 l0 l1 l2 + p42 b0 b1 b2 b3 l0 l1 l2 * t3 b0 b1 b2 b3 l0 l1 l2 + p41 b0 b1 b2 b3 l0 l1 l2 * t2 b0 b1 b2 b3 l0 l1 l2 + p40 b0 b1 b2 b3 l0 l1 l2 * t1 b0 b1 b2 b3) := by
  simp only [t1, t2, t3, t4, t5, p40, p41, p42, p43, p30, p31, p32, p20, p21]
  grind
theorem nw6 : t6 b0 b1 b2 b3 l0 l1 l2 = -(p43 b0 b1 b2 b3 * t5 b0 b1 b2 b3 l0 l1 l2 + p42 b0 b1 b2 b3 l0 l1 l2 * t4 b0 b1 b2 b3 l0 l1 l2 + p41 b0 b1 b2 b3 l0 l1 l2 * t3 b0 b1 b2 b3 l0 l1 l2 + p40 b0 b1 b2 b3 l0 l1 l2 * t2 b0 b1 b2 b3 l0 l1 l2) := by
  simp only [t2, t3, t4, t5, t6, p40, p41, p42, p43, p30, p31, p32, p20, p21]
  grind
end
end Mine
end
section
open PySem PySem.W
namespace Mine
theorem sqn (x : Int) : 0 ≤ x * x := by
  rcases Int.le_total 0 x with h | h
  · exact Int.mul_nonneg h h
  · exact Int.mul_nonneg_of_nonpos_of_nonpos h h
theorem two_pos {x : Int} (h : 0 < x) : 0 < 2 * x := by (first | lia | omega)
section
variable (b0 b1 b2 b3 l0 l1 l2 : Int)
theorem tf2 (u0 u1 : Int) : u0 * u0 * 4 + 2 * (u0 * u1) * t1 b0 b1 b2 b3 + u1 * u1 * t2 b0 b1 b2 b3 l0 l1 l2 = ((u0 + u1 * b0) * (u0 + u1 * b0)) + ((u0 + u1 * b1) * (u0 + u1 * b1)) + ((u0 + u1 * b2) * (u0 + u1 * b2)) + ((u0 + u1 * b3) * (u0 + u1 * b3)) + 2 * l0 * ((u1) * (u1)) + 2 * l1 * ((u1) * (u1)) + 2 * l2 * ((u1) * (u1)) := by
  simp only [t1, t2]
  grind
theorem tp2 (u0 u1 : Int) (g0 : 0 < l0) (g1 : 0 < l1) (g2 : 0 < l2) (hu : 0 < u1) : 0 < u0 * u0 * 4 + 2 * (u0 * u1) * t1 b0 b1 b2 b3 + u1 * u1 * t2 b0 b1 b2 b3 l0 l1 l2 := by
  rw [tf2]
  have g01 := Int.mul_pos g0 g1
  have g12 := Int.mul_pos g1 g2
  have g02 := Int.mul_pos g01 g2
  have h0 := sqn (u0 + u1 * b0)
  have h1 := sqn (u0 + u1 * b1)
  have h2 := sqn (u0 + u1 * b2)
  have h3 := sqn (u0 + u1 * b3)
  have h4 := sqn (u1)
  have k4 := Int.mul_nonneg (Int.le_of_lt (two_pos g0)) h4
  have h5 := sqn (u1)
  have k5 := Int.mul_nonneg (Int.le_of_lt (two_pos g1)) h5
  have h6 := sqn (u1)
  have k6 := Int.mul_nonneg (Int.le_of_lt (two_pos g2)) h6
  have hz := Int.mul_pos (two_pos g2) (Int.mul_pos hu hu)
  exact Int.add_pos_of_nonneg_of_pos (Int.add_nonneg (Int.add_nonneg (Int.add_nonneg (Int.add_nonneg (Int.add_nonneg h0 h1) h2) h3) k4) k5) hz
theorem tf3 (u0 u1 u2 : Int) : u0 * u0 * 4 + 2 * (u0 * u1) * t1 b0 b1 b2 b3 + 2 * (u0 * u2) * t2 b0 b1 b2 b3 l0 l1 l2 + u1 * u1 * t2 b0 b1 b2 b3 l0 l1 l2 + 2 * (u1 * u2) * t3 b0 b1 b2 b3 l0 l1 l2 + u2 * u2 * t4 b0 b1 b2 b3 l0 l1 l2 = ((u0 + u1 * b0 + u2 * (b0 * b0 + l0)) * (u0 + u1 * b0 + u2 * (b0 * b0 + l0))) + ((u0 + u1 * b1 + u2 * (l0 + b1 * b1 + l1)) * (u0 + u1 * b1 + u2 * (l0 + b1 * b1 + l1))) + ((u0 + u1 * b2 + u2 * (l1 + b2 * b2 + l2)) * (u0 + u1 * b2 + u2 * (l1 + b2 * b2 + l2))) + ((u0 + u1 * b3 + u2 * (l2 + b3 * b3)) * (u0 + u1 * b3 + u2 * (l2 + b3 * b3))) + 2 * l0 * ((u1 + u2 * (b0 + b1)) * (u1 + u2 * (b0 + b1))) + 2 * l1 * ((u1 + u2 * (b1 + b2)) * (u1 + u2 * (b1 + b2))) + 2 * l2 * ((u1 + u2 * (b2 + b3)) * (u1 + u2 * (b2 + b3))) + 2 * (l0 * l1) * ((u2) * (u2)) + 2 * (l1 * l2) * ((u2) * (u2)) := by
  simp only [t1, t2, t3, t4]
  grind
theorem tp3 (u0 u1 u2 : Int) (g0 : 0 < l0) (g1 : 0 < l1) (g2 : 0 < l2) (hu : 0 < u2) : 0 < u0 * u0 * 4 + 2 * (u0 * u1) * t1 b0 b1 b2 b3 + 2 * (u0 * u2) * t2 b0 b1 b2 b3 l0 l1 l2 + u1 * u1 * t2 b0 b1 b2 b3 l0 l1 l2 + 2 * (u1 * u2) * t3 b0 b1 b2 b3 l0 l1 l2 + u2 * u2 * t4 b0 b1 b2 b3 l0 l1 l2 := by
  rw [tf3]
  have g01 := Int.mul_pos g0 g1
  have g12 := Int.mul_pos g1 g2
  have g02 := Int.mul_pos g01 g2
  have h0 := sqn (u0 + u1 * b0 + u2 * (b0 * b0 + l0))
  have h1 := sqn (u0 + u1 * b1 + u2 * (l0 + b1 * b1 + l1))
  have h2 := sqn (u0 + u1 * b2 + u2 * (l1 + b2 * b2 + l2))
  have h3 := sqn (u0 + u1 * b3 + u2 * (l2 + b3 * b3))
  have h4 := sqn (u1 + u2 * (b0 + b1))
  have k4 := Int.mul_nonneg (Int.le_of_lt (two_pos g0)) h4
  have h5 := sqn (u1 + u2 * (b1 + b2))
  have k5 := Int.mul_nonneg (Int.le_of_lt (two_pos g1)) h5
  have h6 := sqn (u1 + u2 * (b2 + b3))
  have k6 := Int.mul_nonneg (Int.le_of_lt (two_pos g2)) h6
  have h7 := sqn (u2)
  have k7 := Int.mul_nonneg (Int.le_of_lt (two_pos g01)) h7
  have h8 := sqn (u2)
  have k8 := Int.mul_nonneg (Int.le_of_lt (two_pos g12)) h8
  have hz := Int.mul_pos (two_pos g12) (Int.mul_pos hu hu)
  exact Int.add_pos_of_nonneg_of_pos (Int.add_nonneg (Int.add_nonneg (Int.add_nonneg (Int.add_nonneg (Int.add_nonneg (Int.add_nonneg (Int.add_nonneg h0 h1) h2) h3) k4) k5) k6) k7) hz
theorem tf4 (u0 u1 u2 u3 : Int) : u0 * u0 * 4 + 2 * (u0 * u1) * t1 b0 b1 b2 b3 + 2 * (u0 * u2) * t2 b0 b1 b2 b3 l0 l1 l2 + 2 * (u0 * u3) * t3 b0 b1 b2 b3 l0 l1 l2 + u1 * u1 * t2 b0 b1 b2 b3 l0 l1 l2 + 2 * (u1 * u2) * t3 b0 b1 b2 b3 l0 l1 l2 + 2 * (u1 * u3) * t4 b0 b1 b2 b3 l0 l1 l2 + u2 * u2 * t4 b0 b1 b2 b3 l0 l1 l2 + 2 * (u2 * u3) * t5 b0 b1 b2 b3 l0 l1 l2 + u3 * u3 * t6 b0 b1 b2 b3 l0 l1 l2 = ((u0 + u1 * b0 + u2 * (b0 * b0 + l0) + u3 * ((b0 * b0 + l0) * b0 + b0 * l0 + l0 * b1)) * (u0 + u1 * b0 + u2 * (b0 * b0 + l0) + u3 * ((b0 * b0 + l0) * b0 + b0 * l0 + l0 * b1))) + ((u0 + u1 * b1 + u2 * (l0 + b1 * b1 + l1) + u3 * ((b0 + b1) * l0 + (l0 + b1 * b1 + l1) * b1 + b1 * l1 + l1 * b2)) * (u0 + u1 * b1 + u2 * (l0 + b1 * b1 + l1) + u3 * ((b0 + b1) * l0 + (l0 + b1 * b1 + l1) * b1 + b1 * l1 + l1 * b2))) + ((u0 + u1 * b2 + u2 * (l1 + b2 * b2 + l2) + u3 * ((b1 + b2) * l1 + (l1 + b2 * b2 + l2) * b2 + b2 * l2 + l2 * b3)) * (u0 + u1 * b2 + u2 * (l1 + b2 * b2 + l2) + u3 * ((b1 + b2) * l1 + (l1 + b2 * b2 + l2) * b2 + b2 * l2 + l2 * b3))) + ((u0 + u1 * b3 + u2 * (l2 + b3 * b3) + u3 * ((b2 + b3) * l2 + (l2 + b3 * b3) * b3)) * (u0 + u1 * b3 + u2 * (l2 + b3 * b3) + u3 * ((b2 + b3) * l2 + (l2 + b3 * b3) * b3))) + 2 * l0 * ((u1 + u2 * (b0 + b1) + u3 * ((b0 + b1) * b0 + l0 + b1 * b1 + l1)) * (u1 + u2 * (b0 + b1) + u3 * ((b0 + b1) * b0 + l0 + b1 * b1 + l1))) + 2 * l1 * ((u1 + u2 * (b1 + b2) + u3 * (l0 + (b1 + b2) * b1 + l1 + b2 * b2 + l2)) * (u1 + u2 * (b1 + b2) + u3 * (l0 + (b1 + b2) * b1 + l1 + b2 * b2 + l2))) + 2 * l2 * ((u1 + u2 * (b2 + b3) + u3 * (l1 + (b2 + b3) * b2 + l2 + b3 * b3)) * (u1 + u2 * (b2 + b3) + u3 * (l1 + (b2 + b3) * b2 + l2 + b3 * b3))) + 2 * (l0 * l1) * ((u2 + u3 * (b0 + b1 + b2)) * (u2 + u3 * (b0 + b1 + b2))) + 2 * (l1 * l2) * ((u2 + u3 * (b1 + b2 + b3)) * (u2 + u3 * (b1 + b2 + b3))) + 2 * (l0 * l1 * l2) * ((u3) * (u3)) := by
  simp only [t1, t2, t3, t4, t5, t6]
  grind
theorem tp4 (u0 u1 u2 u3 : Int) (g0 : 0 < l0) (g1 : 0 < l1) (g2 : 0 < l2) (hu : 0 < u3) : 0 < u0 * u0 * 4 + 2 * (u0 * u1) * t1 b0 b1 b2 b3 + 2 * (u0 * u2) * t2 b0 b1 b2 b3 l0 l1 l2 + 2 * (u0 * u3) * t3 b0 b1 b2 b3 l0 l1 l2 + u1 * u1 * t2 b0 b1 b2 b3 l0 l1 l2 + 2 * (u1 * u2) * t3 b0 b1 b2 b3 l0 l1 l2 + 2 * (u1 * u3) * t4 b0 b1 b2 b3 l0 l1 l2 + u2 * u2 * t4 b0 b1 b2 b3 l0 l1 l2 + 2 * (u2 * u3) * t5 b0 b1 b2 b3 l0 l1 l2 + u3 * u3 * t6 b0 b1 b2 b3 l0 l1 l2 := by
  rw [tf4]
  have g01 := Int.mul_pos g0 g1
  have g12 := Int.mul_pos g1 g2
  have g02 := Int.mul_pos g01 g2
  have h0 := sqn (u0 + u1 * b0 + u2 * (b0 * b0 + l0) + u3 * ((b0 * b0 + l0) * b0 + b0 * l0 + l0 * b1))
  have h1 := sqn (u0 + u1 * b1 + u2 * (l0 + b1 * b1 + l1) + u3 * ((b0 + b1) * l0 + (l0 + b1 * b1 + l1) * b1 + b1 * l1 + l1 * b2))
  have h2 := sqn (u0 + u1 * b2 + u2 * (l1 + b2 * b2 + l2) + u3 * ((b1 + b2) * l1 + (l1 + b2 * b2 + l2) * b2 + b2 * l2 + l2 * b3))
  have h3 := sqn (u0 + u1 * b3 + u2 * (l2 + b3 * b3) + u3 * ((b2 + b3) * l2 + (l2 + b3 * b3) * b3))
  have h4 := sqn (u1 + u2 * (b0 + b1) + u3 * ((b0 + b1) * b0 + l0 + b1 * b1 + l1))
  have k4 := Int.mul_nonneg (Int.le_of_lt (two_pos g0)) h4
  have h5 := sqn (u1 + u2 * (b1 + b2) + u3 * (l0 + (b1 + b2) * b1 + l1 + b2 * b2 + l2))
  have k5 := Int.mul_nonneg (Int.le_of_lt (two_pos g1)) h5
  have h6 := sqn (u1 + u2 * (b2 + b3) + u3 * (l1 + (b2 + b3) * b2 + l2 + b3 * b3))
  have k6 := Int.mul_nonneg (Int.le_of_lt (two_pos g2)) h6
  have h7 := sqn (u2 + u3 * (b0 + b1 + b2))
  have k7 := Int.mul_nonneg (Int.le_of_lt (two_pos g01)) h7
  have h8 := sqn (u2 + u3 * (b1 + b2 + b3))
  have k8 := Int.mul_nonneg (Int.le_of_lt (two_pos g12)) h8
  have h9 := sqn (u3)
  have k9 := Int.mul_nonneg (Int.le_of_lt (two_pos g02)) h9
  have hz := Int.mul_pos (two_pos g02) (Int.mul_pos hu hu)
  exact Int.add_pos_of_nonneg_of_pos (Int.add_nonneg (Int.add_nonneg (Int.add_nonneg (Int.add_nonneg (Int.add_nonneg (Int.add_nonneg (Int.add_nonneg (Int.add_nonneg h0 h1) h2) h3) k4) k5) k6) k7) k8) hz
end
end Mine
end
section
open PySem PySem.W
namespace Mine
theorem gcd_fold_dvd : ∀ (xs : List Int) (g : Int), (xs.foldl (fun g x => (Int.gcd g x : Int)) g ∣ g) ∧ ∀ x ∈ xs, xs.foldl (fun g x => (Int.gcd g x : Int)) g ∣ x
  | [], g => ⟨Int.dvd_refl g, fun x h => absurd h List.not_mem_nil⟩
  | y :: ys, g => by
    obtain ⟨h1, h2⟩ := gcd_fold_dvd ys (Int.gcd g y : Int)
    refine ⟨Int.dvd_trans h1 (Int.gcd_dvd_left ..), fun x hx => ?_⟩
    rcases List.mem_cons.mp hx with rfl | hx
    · exact Int.dvd_trans h1 (Int.gcd_dvd_right ..)
    · exact h2 x hx
theorem gcd_fold_nn : ∀ (xs : List Int) (g : Int), 0 ≤ g → 0 ≤ xs.foldl (fun g x => (Int.gcd g x : Int)) g
  | [], g, h => h
  | y :: ys, g, h => gcd_fold_nn ys _ (Int.natCast_nonneg _)
theorem gcdAll_dvd (xs : List Int) (i : Nat) : gcdAll xs ∣ xs.getD i 0 := by
  rcases Nat.lt_or_ge i xs.length with h | h
  · have e : xs.getD i 0 = xs[i] := by simp [List.getD_eq_getElem?_getD, h]
    rw [e]
    exact (gcd_fold_dvd xs 0).2 _ (List.getElem_mem h)
  · rw [getD_out (by (first | lia | omega))]
    exact Int.dvd_zero _
theorem gcdAll_nn (xs : List Int) : 0 ≤ gcdAll xs := gcd_fold_nn xs 0 (Int.le_refl 0)
theorem gcdAll_pos {xs : List Int} (i : Nat) (h : xs.getD i 0 ≠ 0) : 0 < gcdAll xs := by
  have h1 := gcdAll_dvd xs i
  have h2 := gcdAll_nn xs
  rcases Int.lt_or_eq_of_le h2 with q | q
  · exact q
  · rw [← q] at h1
    exact absurd (Int.zero_dvd.mp h1) h
theorem gcdAll_sz {xs : List Int} {k : Nat} (i : Nat) (h : xs.getD i 0 ≠ 0) (s : Sz k (xs.getD i 0)) : Sz k (gcdAll xs) := by
  have h1 := Int.natAbs_dvd_natAbs.mpr (gcdAll_dvd xs i)
  exact Nat.lt_of_le_of_lt (Nat.le_of_dvd (by (first | lia | omega)) h1) s
theorem divL_getD (xs : List Int) (k : Int) (i : Nat) : (divL xs k).getD i 0 = (xs.getD i 0).fdiv k := by
  unfold divL
  rw [List.getD_eq_getElem?_getD, List.getElem?_map, List.getD_eq_getElem?_getD]
  cases xs[i]? with
  | none => simp
  | some x => rfl
theorem divL_len (xs : List Int) (k : Int) : (divL xs k).length = xs.length := List.length_map ..
theorem divL_mul {xs : List Int} {k : Int} {i : Nat} (h : k ∣ xs.getD i 0) : k * (divL xs k).getD i 0 = xs.getD i 0 := by
  rw [divL_getD]
  obtain ⟨c, e⟩ := h
  by_cases hk : k = 0
  · subst hk; rw [e]; simp
  · rw [e, Int.mul_fdiv_cancel_left _ hk]
theorem divL_one (xs : List Int) : divL xs 1 = xs := ext_getD (divL_len _ _) fun i => by rw [divL_getD, Int.fdiv_one]
theorem sz_part {g y x : Int} {k : Nat} (hg : g ≠ 0) (e : g * y = x) (s : Sz k x) : Sz k y := by
  subst e
  unfold Sz at *
  rw [Int.natAbs_mul] at s
  refine Nat.lt_of_le_of_lt ?_ s
  exact Nat.le_mul_of_pos_left _ (by (first | lia | omega))
theorem less_ok (xs : List Int) : ∃ g, 0 < g ∧ (lessL xs).length = xs.length ∧ ∀ i, g * (lessL xs).getD i 0 = xs.getD i 0 := by
  unfold lessL
  split
  · rename_i h
    exact ⟨gcdAll xs, by (first | lia | omega), divL_len _ _, fun i => divL_mul (gcdAll_dvd xs i)⟩
  · exact ⟨1, by decide, rfl, fun i => Int.one_mul _⟩
theorem prem_eq {a b : List Int} (h : a.length = b.length + 1) (hb : 2 ≤ b.length) (hc : premC a b (b.length - 2) ≠ 0) : (premL a b).length = b.length - 1 := by
  have : Trimmed ((List.range (b.length - 1)).map (premC a b)) := by
    right
    rw [leadL, List.length_map, List.length_range, range_getD, if_pos (by (first | lia | omega)), show b.length - 1 - 1 = b.length - 2 by (first | lia | omega)]
    exact hc
  rw [premL, trim_id this, List.length_map, List.length_range]
theorem premC_sz {a b : List Int} {k m : Nat} (sa : SzL k a) (sb : SzL m b) (i : Nat) : Sz (k + 2 * m + 2) (premC a b i) := by
  have hF : ∀ i, Sz (k + m + 1) (premF a b i) := fun i => by
    unfold premF
    refine Sz.sub (Sz.mul (sa i) (sb _)) (Sz.mul (sa _) ?_)
    split
    · exact Sz.zero
    · exact sb _
  have := Sz.sub (Sz.mul (hF i) (sb (b.length - 1))) (Sz.mul (hF (b.length - 1)) (sb i))
  exact this.le
theorem next_ok {a b : List Int} {k m : Nat} (h : a.length = b.length + 1) (hb : 2 ≤ b.length) (sa : SzL k a) (sb : SzL m b) (hk : k + 2 * m + 2 ≤ 500) (hc : premC a b (b.length - 2) < 0) :
    ∃ g, 0 < g ∧ (nextL a b).length = b.length - 1 ∧ (∀ i, g * (nextL a b).getD i 0 = -(premC a b i)) ∧ 0 < leadL (nextL a b) ∧ SzL (k + 2 * m + 2) (nextL a b) ∧ Fit (gcdAll (negL (premL a b))) := by
  have hl := prem_eq h hb (by (first | lia | omega))
  have hd : ∀ i, (negL (premL a b)).getD i 0 = -(premC a b i) := fun i => by rw [negL_getD, premL_getD h (by (first | lia | omega))]
  obtain ⟨g, g0, g1, g2⟩ := less_ok (negL (premL a b))
  have g2' : ∀ i, g * (nextL a b).getD i 0 = -(premC a b i) := fun i => (g2 i).trans (hd i)
  have g1' : (nextL a b).length = b.length - 1 := by rw [nextL, g1, negL_len, hl]
  refine ⟨g, g0, g1', g2', ?_, fun i => ?_, ?_⟩
  · rw [leadL, g1', show b.length - 1 - 1 = b.length - 2 by (first | lia | omega)]
    have e := g2' (b.length - 2)
    rcases Int.lt_or_le 0 ((nextL a b).getD (b.length - 2) 0) with q | q
    · exact q
    · have := Int.mul_nonpos_of_nonneg_of_nonpos (Int.le_of_lt g0) q
      (first | lia | omega)
  · exact sz_part (by (first | lia | omega)) (g2' i) (premC_sz sa sb i).neg
  · refine (gcdAll_sz (k := 500) (b.length - 2) ?_ ?_).fit
    · rw [hd]; (first | lia | omega)
    · rw [hd]; exact (premC_sz sa sb _).neg.le
theorem premC_scale {a b a' b' : List Int} {x y : Int} (la : a'.length = a.length) (lb : b'.length = b.length) (ha : ∀ i, a.getD i 0 = x * a'.getD i 0) (hb : ∀ i, b.getD i 0 = y * b'.getD i 0) (i : Nat) : premC a b i = x * (y * y) * premC a' b' i := by
  have hs : ∀ i : Nat, (if i = 0 then 0 else b.getD (i - 1) 0) = y * (if i = 0 then 0 else b'.getD (i - 1) 0) := fun i => by
    split
    · simp
    · exact hb _
  have hF : ∀ i, premF a b i = x * y * premF a' b' i := fun i => by
    unfold premF leadL
    rw [hs, ha, ha, hb, la, lb]
    generalize a'.getD i 0 = p1
    generalize a'.getD (a.length - 1) 0 = p2
    generalize b'.getD (b.length - 1) 0 = p3
    generalize (if i = 0 then 0 else b'.getD (i - 1) 0) = p4
    clear ha hb hs la lb
    grind
  unfold premC leadL
  rw [hF, hF, hb, hb, lb]
  generalize premF a' b' i = p1
  generalize premF a' b' (b.length - 1) = p2
  generalize b'.getD (b.length - 1) 0 = p3
  generalize b'.getD i 0 = p4
  clear ha hb hs la lb hF
  grind
end Mine
end
section
open PySem PySem.W
namespace Mine
theorem endS_of {xs : List Int} {n : Nat} (h : xs.length = n + 1) (m : Bool) : endS xs m = if m && decide (n % 2 = 1) then -1 else 1 := by
  have e : ((xs.length : Int) - 1).fmod 2 = ((n % 2 : Nat) : Int) := by
    rw [h, Int.fmod_eq_emod_of_nonneg _ (by decide)]; (first | lia | omega)
  unfold endS
  rw [e]
  have e2 : decide (((n % 2 : Nat) : Int) = 1) = decide (n % 2 = 1) := decide_eq_decide.mpr (by (first | lia | omega))
  rw [e2]
theorem prem_nil {a b : List Int} (h : b.length = 1) : nextL a b = [] := by
  rw [nextL, premL, h]
  rfl
theorem prod_neg {x y : Int} (hx : 0 < x) (h : x * y < 0) : y < 0 := by
  rcases Int.lt_or_le y 0 with q | q
  · exact q
  · have := Int.mul_nonneg (Int.le_of_lt hx) q
    (first | lia | omega)
theorem prod_pos {x y : Int} (hx : x < 0) (h : 0 < x * y) : y < 0 := by
  rcases Int.lt_or_le y 0 with q | q
  · exact q
  · have := Int.mul_nonpos_of_nonpos_of_nonneg (Int.le_of_lt hx) q
    (first | lia | omega)
theorem id1 (g : Int) : 1 * (-g * -g) = g * g := by grind
theorem id2 (g k z : Int) : 1 * (-g * -g) * -(k * z) = -(g * g * k) * z := by grind
theorem id3 (g k : Int) : -g * (-(g * g * k) * -(g * g * k)) = -(g * (g * g * k * (g * g * k))) := by grind
section
variable {f F E H : List Int} (lf : f.length = 5) (lF : F.length = 4) (lE : E.length = 3) (lH : H.length = 2)
  (eE : ∀ i, E.getD i 0 = premC f F i) (eH : ∀ i, H.getD i 0 = premC F E i)
  (h2 : premC f F 2 < 0) (h1 : premC F E 1 < 0) (h0 : 0 < premC E H 0) (sf : SzL 12 f) (sF : SzL 15 F)
include lf lF lE lH eE eH h2 h1 h0 sf sF
theorem sturm_ok (pf : 0 < leadL f) (pF : 0 < leadL F) : ∃ r, StCh f F r ∧ r.length < 800 ∧ (∀ xs ∈ f :: r, 0 < leadL xs) ∧ (changes ((f :: r).map fun xs => endS xs true) : Int) - changes ((f :: r).map fun xs => endS xs false) = 4 := by
  obtain ⟨g, g0, n1, n2, n3, n4, n5⟩ := next_ok (a := f) (b := F) (by (first | lia | omega)) (by (first | lia | omega)) sf sF (by decide) (by rw [lF]; exact h2)
  generalize hS2 : nextL f F = S2 at *
  have l2 : S2.length = 3 := by (first | lia | omega)
  have sc1 : ∀ i, premC F E i = 1 * (-g * -g) * premC F S2 i := premC_scale rfl (by (first | lia | omega)) (fun i => (Int.one_mul _).symm) fun i => by
    rw [eE, Int.neg_mul, n2]; (first | lia | omega)
  have q1 : premC F S2 1 < 0 := by
    refine prod_neg (x := 1 * (-g * -g)) ?_ (by rw [← sc1]; exact h1)
    have := Int.mul_pos g0 g0
    rw [id1]
    exact this
  obtain ⟨k, k0, m1, m2, m3, m4, m5⟩ := next_ok (a := F) (b := S2) (by (first | lia | omega)) (by (first | lia | omega)) sF n4 (by decide) (by rw [l2]; exact q1)
  generalize hS3 : nextL F S2 = S3 at *
  have l3 : S3.length = 2 := by (first | lia | omega)
  have sc2 : premC E H 0 = -g * (-(g * g * k) * -(g * g * k)) * premC S2 S3 0 := premC_scale (by (first | lia | omega)) (by (first | lia | omega)) (fun i => by rw [eE, Int.neg_mul, n2]; (first | lia | omega)) (fun i => by
    have e := m2 i
    rw [eH, sc1, show premC F S2 i = -(k * S3.getD i 0) by (first | lia | omega)]
    exact id2 g k _) 0
  have q2 : premC S2 S3 0 < 0 := by
    refine prod_pos (x := -g * (-(g * g * k) * -(g * g * k))) ?_ (by rw [← sc2]; exact h0)
    have hk := Int.mul_pos (Int.mul_pos g0 g0) k0
    have := Int.mul_pos g0 (Int.mul_pos hk hk)
    rw [id3]
    (first | lia | omega)
  obtain ⟨j, j0, w1, w2, w3, w4, w5⟩ := next_ok (a := S2) (b := S3) (by (first | lia | omega)) (by (first | lia | omega)) n4 m4 (by decide) (by rw [l3]; exact q2)
  generalize hS4 : nextL S2 S3 = S4 at *
  have l4 : S4.length = 1 := by (first | lia | omega)
  have c4 : StCh S4 (nextL S3 S4) [] := by rw [prem_nil l4]; exact .stop _
  have f4 : Fit (gcdAll (negL (premL S3 S4))) := by
    rw [premL, l4]; exact Fit.zero
  have c3 := StCh.step (a := S3) (b := S4) (by (first | lia | omega)) (by (first | lia | omega)) (by (first | lia | omega)) (by (first | lia | omega)) m4.le w4.le f4 c4
  rw [← hS4] at c3
  have c2 := StCh.step (a := S2) (b := S3) (by (first | lia | omega)) (by (first | lia | omega)) (by (first | lia | omega)) (by (first | lia | omega)) n4.le m4.le w5 c3
  rw [← hS3] at c2
  have c1 := StCh.step (a := F) (b := S2) (by (first | lia | omega)) (by (first | lia | omega)) (by (first | lia | omega)) (by (first | lia | omega)) sF.le n4.le m5 c2
  rw [← hS2] at c1
  have c0 := StCh.step (a := f) (b := F) (by (first | lia | omega)) (by (first | lia | omega)) (by (first | lia | omega)) (by (first | lia | omega)) sf.le sF.le n5 c1
  rw [hS2, hS3, hS4] at c0
  refine ⟨_, c0, by simp, fun xs hx => ?_, ?_⟩
  · simp only [List.mem_cons, List.not_mem_nil, or_false] at hx
    rcases hx with rfl | rfl | rfl | rfl | rfl <;> assumption
  · simp only [List.map_cons, List.map_nil]
    rw [endS_of (n := 4) lf, endS_of (n := 3) lF, endS_of (n := 2) l2, endS_of (n := 1) l3, endS_of (n := 0) l4, endS_of (n := 4) lf, endS_of (n := 3) lF, endS_of (n := 2) l2, endS_of (n := 1) l3, endS_of (n := 0) l4]
    decide
end
end Mine
end
section
open PySem PySem.W
namespace Mine
section
variable (c0 c1 c2 c3 g0 g1 g2 g3 : Int)
noncomputable def fQ0 : Int := g0 * g1 * g1 - g0 * g0 * g2 - c3 * g0 * g1 * g2 + c3 * g0 * g0 * g3 + c3 * c3 * g0 * g1 * g3 + c2 * g0 * g2 * g2 - 2 * c2 * g0 * g1 * g3 - c2 * c3 * g0 * g2 * g3 + c2 * c2 * g0 * g3 * g3 + c1 * g0 * g2 * g3 - c1 * c3 * g0 * g3 * g3 - c0 * g2 * g2 * g2 + 2 * c0 * g1 * g2 * g3 - c0 * g0 * g3 * g3 + c0 * c3 * g2 * g2 * g3 - c0 * c3 * g1 * g3 * g3 - c0 * c2 * g2 * g3 * g3 + c0 * c1 * g3 * g3 * g3
noncomputable def fQ1 : Int := g1 * g1 * g1 - 2 * g0 * g1 * g2 + g0 * g0 * g3 - c3 * g1 * g1 * g2 + c3 * g0 * g2 * g2 + c3 * g0 * g1 * g3 + c3 * c3 * g1 * g1 * g3 - c3 * c3 * g0 * g2 * g3 + c2 * g1 * g2 * g2 - 2 * c2 * g1 * g1 * g3 - c2 * c3 * g1 * g2 * g3 + c2 * c3 * g0 * g3 * g3 + c2 * c2 * g1 * g3 * g3 - c1 * g2 * g2 * g2 + 3 * c1 * g1 * g2 * g3 - 2 * c1 * g0 * g3 * g3 + c1 * c3 * g2 * g2 * g3 - 2 * c1 * c3 * g1 * g3 * g3 - c1 * c2 * g2 * g3 * g3 + c1 * c1 * g3 * g3 * g3 - c0 * g2 * g2 * g3 + c0 * g1 * g3 * g3 + c0 * c3 * g2 * g3 * g3 - c0 * c2 * g3 * g3 * g3
/-- the rest of f by G, spelled out -/
noncomputable def fE0 : Int := (c0 * g3 - 1 * 0) * g3 - (c3 * g3 - 1 * g2) * g0
noncomputable def fE1 : Int := (c1 * g3 - 1 * g0) * g3 - (c3 * g3 - 1 * g2) * g1
noncomputable def fE2 : Int := (c2 * g3 - 1 * g1) * g3 - (c3 * g3 - 1 * g2) * g2
theorem ex0 : (g0 * fE2 c2 c3 g1 g2 g3 - g3 * 0) * fE2 c2 c3 g1 g2 g3 - (g2 * fE2 c2 c3 g1 g2 g3 - g3 * fE1 c1 c3 g0 g1 g2 g3) * fE0 c0 c3 g0 g2 g3 = g3 * g3 * fQ0 c0 c1 c2 c3 g0 g1 g2 g3 := by
  unfold fE0 fE1 fE2 fQ0
  grind
theorem ex1 : (g1 * fE2 c2 c3 g1 g2 g3 - g3 * fE0 c0 c3 g0 g2 g3) * fE2 c2 c3 g1 g2 g3 - (g2 * fE2 c2 c3 g1 g2 g3 - g3 * fE1 c1 c3 g0 g1 g2 g3) * fE1 c1 c3 g0 g1 g2 g3 = g3 * g3 * fQ1 c0 c1 c2 c3 g0 g1 g2 g3 := by
  unfold fE0 fE1 fE2 fQ1
  grind
end
theorem list5 {f : List Int} (h : f.length = 5) : f = [f.getD 0 0, f.getD 1 0, f.getD 2 0, f.getD 3 0, f.getD 4 0] := by
  match f, h with
  | [a, b, c, d, e], _ => rfl
theorem list4 {f : List Int} (h : f.length = 4) : f = [f.getD 0 0, f.getD 1 0, f.getD 2 0, f.getD 3 0] := by
  match f, h with
  | [a, b, c, d], _ => rfl
theorem list3 {f : List Int} (h : f.length = 3) : f = [f.getD 0 0, f.getD 1 0, f.getD 2 0] := by
  match f, h with
  | [a, b, c], _ => rfl
theorem exact_q (c0 c1 c2 c3 g0 g1 g2 g3 : Int) {D : List Int} (lD : D.length = 3) (hD : ∀ i, D.getD i 0 = premC [c0, c1, c2, c3, 1] [g0, g1, g2, g3] i) (i : Nat) : g3 * g3 ∣ premC [g0, g1, g2, g3] D i := by
  have h0 : D.getD 0 0 = fE0 c0 c3 g0 g2 g3 := hD 0
  have h1 : D.getD 1 0 = fE1 c1 c3 g0 g1 g2 g3 := hD 1
  have h2 : D.getD 2 0 = fE2 c2 c3 g1 g2 g3 := hD 2
  rw [list3 lD, h0, h1, h2]
  match i with
  | 0 => exact ⟨_, ex0 c0 c1 c2 c3 g0 g1 g2 g3⟩
  | 1 => exact ⟨_, ex1 c0 c1 c2 c3 g0 g1 g2 g3⟩
  | i + 2 =>
    rw [premC_hi rfl (by simp) (show 3 - 1 ≤ i + 2 by (first | lia | omega))]
    exact Int.dvd_zero _
end Mine
end
section
open PySem PySem.W
namespace Mine
theorem sc_e (g x : Int) : 1 * (g * g) * x = g * g * x := by grind
theorem sc_h (g s q : Int) : g * (g * g * (g * g)) * (s * s * q) = g * (g * g * (g * g)) * (s * s) * q := by grind
section
variable {F E H : List Int} (c0 c1 c2 c3 : Int) (lF : F.length = 4) (lE : E.length = 3) (lH : H.length = 2)
  (eE : ∀ i, E.getD i 0 = premC [c0, c1, c2, c3, 1] F i) (eH : ∀ i, H.getD i 0 = premC F E i)
  (h2 : premC [c0, c1, c2, c3, 1] F 2 < 0) (h1 : premC F E 1 < 0) (h0 : 0 < premC E H 0) (sf : SzL 12 [c0, c1, c2, c3, 1]) (sF : SzL 15 F)
include lF lE lH eE eH h2 h1 h0 sf sF
theorem sub_ok (pF : 0 < leadL F) : ∃ r c, [c0, c1, c2, c3, 1].length ≠ 0 ∧ F.length ≠ 0 ∧ gcdAll [c0, c1, c2, c3, 1] ≠ 0 ∧ gcdAll F ≠ 0 ∧ Fit (gcdAll [c0, c1, c2, c3, 1]) ∧ Fit (gcdAll F) ∧ (primL F).length ≤ (primL [c0, c1, c2, c3, 1]).length ∧ SubCh (primL [c0, c1, c2, c3, 1]) (primL F) 1 1 r ∧ r.length < 900 ∧
    (primL [c0, c1, c2, c3, 1] :: primL F :: r) = (primL [c0, c1, c2, c3, 1] :: primL F :: r).dropLast ++ [c] ∧ c.length ≤ 1 := by
  have hlead : leadL [c0, c1, c2, c3, 1] = 1 := rfl
  have gf : gcdAll [c0, c1, c2, c3, 1] = 1 := Int.eq_one_of_dvd_one (gcdAll_nn _) (gcdAll_dvd [c0, c1, c2, c3, 1] 4)
  have pf : primL [c0, c1, c2, c3, 1] = [c0, c1, c2, c3, 1] := by
    rw [primL, if_neg (by simp), hlead, if_pos (by decide), gf, divL_one]
  have lf : [c0, c1, c2, c3, 1].length = 5 := rfl
  have pF' : F.getD 3 0 > 0 := by rw [leadL, lF] at pF; exact pF
  have kpos : 0 < gcdAll F := gcdAll_pos 3 (by (first | lia | omega))
  have kfit : Fit (gcdAll F) := (gcdAll_sz 3 (by (first | lia | omega)) (sF 3)).fit
  have pG : primL F = divL F (gcdAll F) := by rw [primL, if_neg (by (first | lia | omega)), if_pos pF]
  have hG : ∀ i, F.getD i 0 = gcdAll F * (divL F (gcdAll F)).getD i 0 := fun i => (divL_mul (gcdAll_dvd F i)).symm
  have lG : (divL F (gcdAll F)).length = 4 := by rw [divL_len, lF]
  rw [pf, pG, gf]
  generalize hk : gcdAll F = k at *
  generalize hGG : divL F k = G at *
  have sG : SzL 15 G := fun i => sz_part (by (first | lia | omega)) (hG i).symm (sF i)
  have nG : leadL G ≠ 0 := fun e => by
    have := hG 3
    rw [leadL, lG] at e
    rw [show G.getD 3 0 = 0 from e, Int.mul_zero] at this
    (first | lia | omega)
  have sc1 : ∀ i, premC [c0, c1, c2, c3, 1] F i = 1 * (k * k) * premC [c0, c1, c2, c3, 1] G i := premC_scale rfl (by (first | lia | omega)) (fun i => (Int.one_mul _).symm) hG
  have n2 : premC [c0, c1, c2, c3, 1] G 2 ≠ 0 := fun e => by
    rw [sc1, e, Int.mul_zero] at h2
    exact absurd h2 (by decide)
  have lD : (premL [c0, c1, c2, c3, 1] G).length = 3 := by rw [prem_eq (by rw [lG]; rfl) (by (first | lia | omega)) (by rw [lG]; exact n2), lG]
  have dD : ∀ i, (premL [c0, c1, c2, c3, 1] G).getD i 0 = premC [c0, c1, c2, c3, 1] G i := premL_getD (by rw [lG]; rfl) (by (first | lia | omega))
  generalize hDD : premL [c0, c1, c2, c3, 1] G = D at *
  have sD : SzL 44 D := fun i => by rw [dD]; exact (premC_sz sf sG i).le
  have nD : leadL D ≠ 0 := by rw [leadL, lD, dD]; exact n2
  have hE : ∀ i, E.getD i 0 = k * k * D.getD i 0 := fun i => by rw [eE, sc1, dD, sc_e]
  have sc2 : ∀ i, premC F E i = k * (k * k * (k * k)) * premC G D i := premC_scale (by (first | lia | omega)) (by (first | lia | omega)) hG hE
  have hex : ∀ i, leadL G * leadL G ∣ premC G D i := fun i => by
    have dD' := dD
    rw [list4 lG] at dD' ⊢
    exact exact_q c0 c1 c2 c3 _ _ _ _ lD dD' i
  have n1 : premC G D 1 ≠ 0 := fun e => by
    rw [sc2, e, Int.mul_zero] at h1
    exact absurd h1 (by decide)
  have lQ : (premL G D).length = 2 := by rw [prem_eq (by (first | lia | omega)) (by (first | lia | omega)) (by rw [lD]; exact n1), lD]
  have dQ : ∀ i, (premL G D).getD i 0 = premC G D i := premL_getD (by (first | lia | omega)) (by (first | lia | omega))
  have nn : leadL G * leadL G ≠ 0 := Int.mul_ne_zero nG nG
  have hQ : ∀ i, leadL G * leadL G * (divL (premL G D) (leadL G * leadL G)).getD i 0 = premC G D i := fun i => by
    rw [← dQ]
    exact divL_mul (by rw [dQ]; exact hex i)
  have lq : (divL (premL G D) (leadL G * leadL G)).length = 2 := by rw [divL_len, lQ]
  generalize hQQ : divL (premL G D) (leadL G * leadL G) = Q at *
  have sQ : SzL 105 Q := fun i => sz_part nn (hQ i) (premC_sz sG sD i)
  have nQ : leadL Q ≠ 0 := fun e => by
    have := hQ 1
    rw [leadL, lq] at e
    rw [show Q.getD 1 0 = 0 from e, Int.mul_zero] at this
    exact n1 this.symm
  have hH : ∀ i, H.getD i 0 = k * (k * k * (k * k)) * (leadL G * leadL G) * Q.getD i 0 := fun i => by
    rw [eH, sc2, ← hQ, ← sc_h]
  have n0 : premC D Q 0 ≠ 0 := fun e => by
    have := premC_scale (a := E) (b := H) (a' := D) (b' := Q) (by (first | lia | omega)) (by (first | lia | omega)) hE hH 0
    rw [e, Int.mul_zero] at this
    (first | lia | omega)
  have lR : (premL D Q).length = 1 := by rw [prem_eq (by (first | lia | omega)) (by (first | lia | omega)) (by rw [lq]; exact n0), lq]
  have c3' : SubCh Q (divL (premL D Q) (leadL D * leadL D)) (leadL Q) (leadL Q) [] := .stop (by rw [divL_len, lR]; exact Nat.le_refl 1)
  have c2' := SubCh.step (a := D) (b := Q) (x := leadL D) (y := leadL D) (by (first | lia | omega)) (by (first | lia | omega)) (by (first | lia | omega)) nQ sD.le sQ.le (by (first | lia | omega)) (Int.mul_ne_zero nD nD) (sD _).le (sD _).le c3'
  rw [← hQQ] at c2'
  have c1' := SubCh.step (a := G) (b := D) (x := leadL G) (y := leadL G) (by (first | lia | omega)) (by (first | lia | omega)) (by (first | lia | omega)) nD sG.le sD.le (by (first | lia | omega)) nn (sG _).le (sG _).le c2'
  have c0' := SubCh.step (a := [c0, c1, c2, c3, 1]) (b := G) (x := 1) (y := 1) (r := _ :: _ :: []) (by (first | lia | omega)) (by (first | lia | omega)) (by (first | lia | omega)) nG sf.le sG.le (by rw [hDD]; (first | lia | omega)) (by decide) (Sz.one (k := 999)) (Sz.one (k := 999)) (by rw [hDD, show (1 : Int) * 1 = 1 from rfl, divL_one]; exact c1')
  exact ⟨_, _, by (first | lia | omega), by (first | lia | omega), by decide, by (first | lia | omega), Fit.one, kfit, by (first | lia | omega), c0', by simp, rfl, by rw [divL_len, hQQ]; (first | lia | omega)⟩
end
end Mine
end
section
open PySem PySem.W
namespace Mine
noncomputable def det3 (a b c d e f g h i : Int) : Int := a * (e * i - f * h) - b * (d * i - f * g) + c * (d * h - e * g)
noncomputable def m2 (s1 s2 : Int) : Int := 4 * s2 - s1 * s1
noncomputable def m3 (s1 s2 s3 s4 : Int) : Int := det3 4 s1 s2 s1 s2 s3 s2 s3 s4
noncomputable def w0 (s1 s2 s3 s4 s5 : Int) : Int := -(det3 s1 s2 s3 s2 s3 s4 s3 s4 s5)
noncomputable def w1 (s1 s2 s3 s4 s5 : Int) : Int := det3 4 s2 s3 s1 s3 s4 s2 s4 s5
noncomputable def w2 (s1 s2 s3 s4 s5 : Int) : Int := -(det3 4 s1 s3 s1 s2 s4 s2 s3 s5)
noncomputable def m4 (s1 s2 s3 s4 s5 s6 : Int) : Int := w0 s1 s2 s3 s4 s5 * s3 + w1 s1 s2 s3 s4 s5 * s4 + w2 s1 s2 s3 s4 s5 * s5 + m3 s1 s2 s3 s4 * s6
theorem hk2 (s1 s2 : Int) : -s1 * -s1 * 4 + 2 * (-s1 * 4) * s1 + 4 * 4 * s2 = 4 * m2 s1 s2 := by
  unfold m2; grind
theorem hk3 (s1 s2 s3 s4 : Int) : (s1 * s3 - s2 * s2) * (s1 * s3 - s2 * s2) * 4 + 2 * ((s1 * s3 - s2 * s2) * (s1 * s2 - 4 * s3)) * s1 + 2 * ((s1 * s3 - s2 * s2) * m2 s1 s2) * s2 + (s1 * s2 - 4 * s3) * (s1 * s2 - 4 * s3) * s2 + 2 * ((s1 * s2 - 4 * s3) * m2 s1 s2) * s3 + m2 s1 s2 * m2 s1 s2 * s4 = m2 s1 s2 * m3 s1 s2 s3 s4 := by
  unfold m2 m3 det3; grind
section
variable (s1 s2 s3 s4 s5 s6 : Int)
theorem z0 : w0 s1 s2 s3 s4 s5 * 4 + w1 s1 s2 s3 s4 s5 * s1 + w2 s1 s2 s3 s4 s5 * s2 + m3 s1 s2 s3 s4 * s3 = 0 := by
  unfold w0 w1 w2 m3 det3; grind
theorem z1 : w0 s1 s2 s3 s4 s5 * s1 + w1 s1 s2 s3 s4 s5 * s2 + w2 s1 s2 s3 s4 s5 * s3 + m3 s1 s2 s3 s4 * s4 = 0 := by
  unfold w0 w1 w2 m3 det3; grind
theorem z2 : w0 s1 s2 s3 s4 s5 * s2 + w1 s1 s2 s3 s4 s5 * s3 + w2 s1 s2 s3 s4 s5 * s4 + m3 s1 s2 s3 s4 * s5 = 0 := by
  unfold w0 w1 w2 m3 det3; grind
theorem quad_sum (u0 u1 u2 u3 : Int) : u0 * u0 * 4 + 2 * (u0 * u1) * s1 + 2 * (u0 * u2) * s2 + 2 * (u0 * u3) * s3 + u1 * u1 * s2 + 2 * (u1 * u2) * s3 + 2 * (u1 * u3) * s4 + u2 * u2 * s4 + 2 * (u2 * u3) * s5 + u3 * u3 * s6 = u0 * (u0 * 4 + u1 * s1 + u2 * s2 + u3 * s3) + u1 * (u0 * s1 + u1 * s2 + u2 * s3 + u3 * s4) + u2 * (u0 * s2 + u1 * s3 + u2 * s4 + u3 * s5) + u3 * (u0 * s3 + u1 * s4 + u2 * s5 + u3 * s6) := by
  grind
end
section
variable (b0 b1 b2 b3 l0 l1 l2 : Int) (g0 : 0 < l0) (g1 : 0 < l1) (g2 : 0 < l2)
include g0 g1 g2
theorem m2_pos : 0 < m2 (t1 b0 b1 b2 b3) (t2 b0 b1 b2 b3 l0 l1 l2) := by
  have h := tp2 b0 b1 b2 b3 l0 l1 l2 (-(t1 b0 b1 b2 b3)) 4 g0 g1 g2 (by decide)
  rw [hk2] at h
  (first | lia | omega)
theorem pos_right {x y : Int} (hx : 0 < x) (h : 0 < x * y) : 0 < y := by
  rcases Int.lt_or_le 0 y with q | q
  · exact q
  · have := Int.mul_nonpos_of_nonneg_of_nonpos (Int.le_of_lt hx) q
    (first | lia | omega)
theorem m3_pos : 0 < m3 (t1 b0 b1 b2 b3) (t2 b0 b1 b2 b3 l0 l1 l2) (t3 b0 b1 b2 b3 l0 l1 l2) (t4 b0 b1 b2 b3 l0 l1 l2) := by
  have hp := m2_pos b0 b1 b2 b3 l0 l1 l2 g0 g1 g2
  have h := tp3 b0 b1 b2 b3 l0 l1 l2 (t1 b0 b1 b2 b3 * t3 b0 b1 b2 b3 l0 l1 l2 - t2 b0 b1 b2 b3 l0 l1 l2 * t2 b0 b1 b2 b3 l0 l1 l2) (t1 b0 b1 b2 b3 * t2 b0 b1 b2 b3 l0 l1 l2 - 4 * t3 b0 b1 b2 b3 l0 l1 l2) (m2 (t1 b0 b1 b2 b3) (t2 b0 b1 b2 b3 l0 l1 l2)) g0 g1 g2 hp
  rw [hk3] at h
  exact pos_right l0 l1 l2 g0 g1 g2 hp h
theorem m4_pos : 0 < m4 (t1 b0 b1 b2 b3) (t2 b0 b1 b2 b3 l0 l1 l2) (t3 b0 b1 b2 b3 l0 l1 l2) (t4 b0 b1 b2 b3 l0 l1 l2) (t5 b0 b1 b2 b3 l0 l1 l2) (t6 b0 b1 b2 b3 l0 l1 l2) := by
  have hp := m3_pos b0 b1 b2 b3 l0 l1 l2 g0 g1 g2
  generalize hs1 : t1 b0 b1 b2 b3 = s1 at *
  generalize hs2 : t2 b0 b1 b2 b3 l0 l1 l2 = s2 at *
  generalize hs3 : t3 b0 b1 b2 b3 l0 l1 l2 = s3 at *
  generalize hs4 : t4 b0 b1 b2 b3 l0 l1 l2 = s4 at *
  generalize hs5 : t5 b0 b1 b2 b3 l0 l1 l2 = s5 at *
  generalize hs6 : t6 b0 b1 b2 b3 l0 l1 l2 = s6 at *
  have h := tp4 b0 b1 b2 b3 l0 l1 l2 (w0 s1 s2 s3 s4 s5) (w1 s1 s2 s3 s4 s5) (w2 s1 s2 s3 s4 s5) (m3 s1 s2 s3 s4) g0 g1 g2 hp
  rw [hs1, hs2, hs3, hs4, hs5, hs6, quad_sum, z0, z1, z2] at h
  simp only [Int.mul_zero, Int.zero_add] at h
  exact pos_right l0 l1 l2 g0 g1 g2 hp h
end
end Mine
end
section
open PySem PySem.W
namespace Mine
section
variable (c0 c1 c2 c3 : Int)
noncomputable def k1 : Int := -c3
noncomputable def k2 : Int := -(c3 * k1 c3 + 2 * c2)
noncomputable def k3 : Int := -(c3 * k2 c2 c3 + c2 * k1 c3 + 3 * c1)
noncomputable def k4 : Int := -(c3 * k3 c1 c2 c3 + c2 * k2 c2 c3 + c1 * k1 c3 + 4 * c0)
noncomputable def k5 : Int := -(c3 * k4 c0 c1 c2 c3 + c2 * k3 c1 c2 c3 + c1 * k2 c2 c3 + c0 * k1 c3)
noncomputable def k6 : Int := -(c3 * k5 c0 c1 c2 c3 + c2 * k4 c0 c1 c2 c3 + c1 * k3 c1 c2 c3 + c0 * k2 c2 c3)
theorem lk2 : fE2 c2 c3 (c2 * 2) (c3 * 3) (1 * 4) = -(m2 (k1 c3) (k2 c2 c3)) := by
  unfold fE2 m2 k2 k1; grind
theorem lk3 : fQ1 c0 c1 c2 c3 (c1 * 1) (c2 * 2) (c3 * 3) (1 * 4) = -(m3 (k1 c3) (k2 c2 c3) (k3 c1 c2 c3) (k4 c0 c1 c2 c3)) := by
  unfold fQ1 m3 det3 k4 k3 k2 k1; grind
end
end Mine
end
section
open PySem PySem.W
namespace Mine
section
variable (c0 c1 c2 c3 : Int)
theorem lk4 : (fE0 c0 c3 (c1 * 1) (c3 * 3) (1 * 4) * fQ1 c0 c1 c2 c3 (c1 * 1) (c2 * 2) (c3 * 3) (1 * 4) - fE2 c2 c3 (c2 * 2) (c3 * 3) (1 * 4) * 0) * fQ1 c0 c1 c2 c3 (c1 * 1) (c2 * 2) (c3 * 3) (1 * 4)
    - (fE1 c1 c3 (c1 * 1) (c2 * 2) (c3 * 3) (1 * 4) * fQ1 c0 c1 c2 c3 (c1 * 1) (c2 * 2) (c3 * 3) (1 * 4) - fE2 c2 c3 (c2 * 2) (c3 * 3) (1 * 4) * fQ0 c0 c1 c2 c3 (c1 * 1) (c2 * 2) (c3 * 3) (1 * 4)) * fQ0 c0 c1 c2 c3 (c1 * 1) (c2 * 2) (c3 * 3) (1 * 4)
    = m2 (k1 c3) (k2 c2 c3) * m2 (k1 c3) (k2 c2 c3) * m4 (k1 c3) (k2 c2 c3) (k3 c1 c2 c3) (k4 c0 c1 c2 c3) (k5 c0 c1 c2 c3) (k6 c0 c1 c2 c3) := by
  unfold fE0 fE1 fE2 fQ0 fQ1 m4 w0 w1 w2 m3 m2 det3 k6 k5 k4 k3 k2 k1; grind
end
end Mine
end
section
open PySem PySem.W
namespace Mine
theorem der5 (c0 c1 c2 c3 : Int) : derL [c0, c1, c2, c3, 1] = [c1 * 1, c2 * 2, c3 * 3, 1 * 4] := rfl
theorem pC2 (c0 c1 c2 c3 : Int) : premC [c0, c1, c2, c3, 1] [c1 * 1, c2 * 2, c3 * 3, 1 * 4] 2 = fE2 c2 c3 (c2 * 2) (c3 * 3) (1 * 4) := rfl
theorem quad_ok {c0 c1 c2 c3 s1 s2 s3 s4 s5 s6 : Int} (h1 : s1 = -c3) (h2 : s2 = -(c3 * s1 + 2 * c2)) (h3 : s3 = -(c3 * s2 + c2 * s1 + 3 * c1)) (h4 : s4 = -(c3 * s3 + c2 * s2 + c1 * s1 + 4 * c0)) (h5 : s5 = -(c3 * s4 + c2 * s3 + c1 * s2 + c0 * s1)) (h6 : s6 = -(c3 * s5 + c2 * s4 + c1 * s3 + c0 * s2))
    (q2 : 0 < m2 s1 s2) (q3 : 0 < m3 s1 s2 s3 s4) (q4 : 0 < m4 s1 s2 s3 s4 s5 s6) (sf : SzL 12 [c0, c1, c2, c3, 1]) : QuadOK [c0, c1, c2, c3, 1] := by
  have e1 : s1 = k1 c3 := h1
  have e2 : s2 = k2 c2 c3 := by rw [h2, e1]; rfl
  have e3 : s3 = k3 c1 c2 c3 := by rw [h3, e1, e2]; rfl
  have e4 : s4 = k4 c0 c1 c2 c3 := by rw [h4, e1, e2, e3]; rfl
  have e5 : s5 = k5 c0 c1 c2 c3 := by rw [h5, e1, e2, e3, e4]; rfl
  have e6 : s6 = k6 c0 c1 c2 c3 := by rw [h6, e2, e3, e4, e5]; rfl
  rw [e1, e2] at q2
  rw [e1, e2, e3, e4] at q3
  rw [e1, e2, e3, e4, e5, e6] at q4
  clear h1 h2 h3 h4 h5 h6 e1 e2 e3 e4 e5 e6
  have p2 : premC [c0, c1, c2, c3, 1] [c1 * 1, c2 * 2, c3 * 3, 1 * 4] 2 < 0 := by rw [pC2, lk2]; exact Int.neg_neg_of_pos q2
  have sF : SzL 15 [c1 * 1, c2 * 2, c3 * 3, 1 * 4] :=
    szl_cons (Sz.mul (sf 1) (Sz.one (k := 0))).le (szl_cons (Sz.mul (sf 2) (sz_of (k := 2) (n := 2) (by decide) (by decide))).le (szl_cons (Sz.mul (sf 3) (sz_of (k := 2) (n := 3) (by decide) (by decide))).le (szl_cons (sz_of (n := 4) (by decide) (by decide)) SzL.nil)))
  have lE : (premL [c0, c1, c2, c3, 1] [c1 * 1, c2 * 2, c3 * 3, 1 * 4]).length = 3 := prem_eq rfl (by simp) (show premC [c0, c1, c2, c3, 1] [c1 * 1, c2 * 2, c3 * 3, 1 * 4] 2 ≠ 0 from Int.ne_of_lt p2)
  have dE : ∀ i, (premL [c0, c1, c2, c3, 1] [c1 * 1, c2 * 2, c3 * 3, 1 * 4]).getD i 0 = premC [c0, c1, c2, c3, 1] [c1 * 1, c2 * 2, c3 * 3, 1 * 4] i := premL_getD rfl (by simp)
  generalize hE : premL [c0, c1, c2, c3, 1] [c1 * 1, c2 * 2, c3 * 3, 1 * 4] = E at *
  have E0 : E.getD 0 0 = fE0 c0 c3 (c1 * 1) (c3 * 3) (1 * 4) := dE 0
  have E1 : E.getD 1 0 = fE1 c1 c3 (c1 * 1) (c2 * 2) (c3 * 3) (1 * 4) := dE 1
  have E2 : E.getD 2 0 = fE2 c2 c3 (c2 * 2) (c3 * 3) (1 * 4) := dE 2
  have eL : E = [fE0 c0 c3 (c1 * 1) (c3 * 3) (1 * 4), fE1 c1 c3 (c1 * 1) (c2 * 2) (c3 * 3) (1 * 4), fE2 c2 c3 (c2 * 2) (c3 * 3) (1 * 4)] := by
    rw [← E0, ← E1, ← E2]; exact list3 lE
  have H0 : premC [c1 * 1, c2 * 2, c3 * 3, 1 * 4] E 0 = 1 * 4 * (1 * 4) * fQ0 c0 c1 c2 c3 (c1 * 1) (c2 * 2) (c3 * 3) (1 * 4) := by
    rw [eL]; exact ex0 c0 c1 c2 c3 (c1 * 1) (c2 * 2) (c3 * 3) (1 * 4)
  have H1 : premC [c1 * 1, c2 * 2, c3 * 3, 1 * 4] E 1 = 1 * 4 * (1 * 4) * fQ1 c0 c1 c2 c3 (c1 * 1) (c2 * 2) (c3 * 3) (1 * 4) := by
    rw [eL]; exact ex1 c0 c1 c2 c3 (c1 * 1) (c2 * 2) (c3 * 3) (1 * 4)
  have p1 : premC [c1 * 1, c2 * 2, c3 * 3, 1 * 4] E 1 < 0 := by rw [H1, lk3]; exact Int.mul_neg_of_pos_of_neg (by decide) (Int.neg_neg_of_pos q3)
  have lH : (premL [c1 * 1, c2 * 2, c3 * 3, 1 * 4] E).length = 2 := by rw [prem_eq (by rw [lE]; rfl) (by (first | lia | omega)) (by rw [lE]; exact Int.ne_of_lt p1), lE]
  have dH : ∀ i, (premL [c1 * 1, c2 * 2, c3 * 3, 1 * 4] E).getD i 0 = premC [c1 * 1, c2 * 2, c3 * 3, 1 * 4] E i := premL_getD (by rw [lE]; rfl) (by (first | lia | omega))
  have hQ : ∀ i, (premL [c1 * 1, c2 * 2, c3 * 3, 1 * 4] E).getD i 0 = 1 * 4 * (1 * 4) * [fQ0 c0 c1 c2 c3 (c1 * 1) (c2 * 2) (c3 * 3) (1 * 4), fQ1 c0 c1 c2 c3 (c1 * 1) (c2 * 2) (c3 * 3) (1 * 4)].getD i 0 := fun i => by
    rw [dH]
    match i with
    | 0 => exact H0
    | 1 => exact H1
    | i + 2 =>
      rw [premC_hi (by rw [lE]; rfl) (by (first | lia | omega)) (by (first | lia | omega))]
      show (0 : Int) = 1 * 4 * (1 * 4) * 0
      rfl
  have p0 : 0 < premC E (premL [c1 * 1, c2 * 2, c3 * 3, 1 * 4] E) 0 := by
    rw [premC_scale (a' := E) (b' := [fQ0 c0 c1 c2 c3 (c1 * 1) (c2 * 2) (c3 * 3) (1 * 4), fQ1 c0 c1 c2 c3 (c1 * 1) (c2 * 2) (c3 * 3) (1 * 4)]) rfl (by rw [lH]; rfl) (fun i => (Int.one_mul _).symm) hQ 0]
    rw [eL]
    have hk := lk4 c0 c1 c2 c3
    have hp := Int.mul_pos (Int.mul_pos q2 q2) q4
    rw [← hk] at hp
    exact Int.mul_pos (by decide) hp
  refine ⟨sf.fit, by simp, ?_, ?_⟩
  · rw [der5]
    exact sub_ok c0 c1 c2 c3 rfl lE lH dE dH p2 p1 p0 sf sF (show (0 : Int) < 1 * 4 by decide)
  · rw [der5]
    exact sturm_ok rfl rfl lE lH dE dH p2 p1 p0 sf sF (show (0 : Int) < 1 by decide) (show (0 : Int) < 1 * 4 by decide)
theorem law_all {b0 b1 b2 b3 l0 l1 l2 : Int} (h0 : b0.natAbs ≤ 2) (h1 : b1.natAbs ≤ 2) (h2 : b2.natAbs ≤ 2) (h3 : b3.natAbs ≤ 2) (g0 : l0.natAbs ≤ 3) (g1 : l1.natAbs ≤ 3) (g2 : l2.natAbs ≤ 3) (i0 : 0 < l0) (i1 : 0 < l1) (i2 : 0 < l2) :
    LawOK [b0, b1, b2, b3] [l0, l1, l2] ∧ QuadOK (rowAt [b0, b1, b2, b3] [l0, l1, l2] 4) := by
  refine ⟨lawOK h0 h1 h2 h3 g0 g1 g2 (totals b0 b1 b2 b3 l0 l1 l2), ?_⟩
  rw [r4_eq]
  have a0 : Sz 2 b0 := sz_of h0 (by decide)
  have a1 : Sz 2 b1 := sz_of h1 (by decide)
  have a2 : Sz 2 b2 := sz_of h2 (by decide)
  have a3 : Sz 2 b3 := sz_of h3 (by decide)
  have c0 : Sz 2 l0 := sz_of g0 (by decide)
  have c1 : Sz 2 l1 := sz_of g1 (by decide)
  have c2 : Sz 2 l2 := sz_of g2 (by decide)
  exact quad_ok (nw1 b0 b1 b2 b3) (nw2 b0 b1 b2 b3 l0 l1 l2) (nw3 b0 b1 b2 b3 l0 l1 l2) (nw4 b0 b1 b2 b3 l0 l1 l2) (nw5 b0 b1 b2 b3 l0 l1 l2) (nw6 b0 b1 b2 b3 l0 l1 l2)
    (m2_pos b0 b1 b2 b3 l0 l1 l2 i0 i1 i2) (m3_pos b0 b1 b2 b3 l0 l1 l2 i0 i1 i2) (m4_pos b0 b1 b2 b3 l0 l1 l2 i0 i1 i2)
    (szl_cons (s40 a0 a1 a2 a3 c0 c1 c2) (szl_cons (s41 a0 a1 a2 a3 c0 c1 c2) (szl_cons (s42 a0 a1 a2 a3 c0 c1 c2) (szl_cons (s43 a0 a1 a2 a3) (szl_cons Sz.one SzL.nil)))))
theorem nb5 {x : Int} (h : 0 ≤ x ∧ x < 5) : (x - 2).natAbs ≤ 2 := by (first | lia | omega)
theorem nb3 {x : Int} (h : 0 ≤ x ∧ x < 3) : (1 + x).natAbs ≤ 3 := by (first | lia | omega)
theorem ps3 {x : Int} (h : 0 ≤ x ∧ x < 3) : 0 < 1 + x := by (first | lia | omega)
theorem plain_law : PlainLaw := fun s => by
  rw [alL_eq, dnL_eq]
  exact law_all (nb5 (draw_range s 0 5 (by decide))) (nb5 (draw_range s 1 5 (by decide))) (nb5 (draw_range s 2 5 (by decide))) (nb5 (draw_range s 3 5 (by decide))) (nb3 (draw_range s 4 3 (by decide))) (nb3 (draw_range s 5 3 (by decide))) (nb3 (draw_range s 6 3 (by decide))) (ps3 (draw_range s 4 3 (by decide))) (ps3 (draw_range s 5 3 (by decide))) (ps3 (draw_range s 6 3 (by decide)))
end Mine
end
section
open PySem PySem.W PyProof.Rows PySem.Spec PySem.Calls
namespace Mine
/-- the top's run, over a tree of objects -/
noncomputable def runG (thr ok : Thread → Bool) (stp : SharedT → Thread → Option (SharedT × Thread)) : Nat → SharedT → Thread → Option SharedT
  | 0, _, _ => none
  | n + 1, s, t => match thr t with
    | true => some s
    | false => match ok t with
      | false => none
      | true => match stp s t with
        | some (s', t') => runG thr ok stp n s' t'
        | none => none
theorem runG_top {tb : String → Option Builtin} {p : Program} {w : World} {m : Nat} {ann : Option Value} : ∀ (n : Nat) (s : SharedT) (t : Thread) (r : SharedT), runG through (stepOk m ann) (PySem.W.stepT (PySem.denote tb) p w) n s t = some r → topRun tb p w m ann n s.abs t = some r.abs
  | 0, _, _, _, h => by cases h
  | n + 1, s, t, r, h => by
    unfold runG at h
    unfold topRun
    cases he : through t with
    | true => rw [he] at h; cases h; rfl
    | false =>
      rw [he] at h
      cases hk : stepOk m ann t with
      | false => rw [hk] at h; cases h
      | true =>
        rw [hk] at h
        cases hs : PySem.W.stepT (PySem.denote tb) p w s t with
        | none => rw [hs] at h; cases h
        | some x => obtain ⟨s₂, t₂⟩ := x; rw [hs] at h; rw [stepT_spec hs]; exact runG_top n _ _ _ h
noncomputable def treeFrom : List Obj → Nat → BT → BT
  | [], _, t => t
  | o :: os, n, t => treeFrom os (n + 1) (t.ins n o)
noncomputable def bootT (P : Params) : BT := treeFrom (boot_heap P).objs.toList 0 .nil
noncomputable def bootS (w : World) (os : OsState) : SharedT := ⟨bootT w.params, 11, (boot_heap w.params).life, #[], boot_drawn, boot_toks, os⟩
theorem bootS_abs : ∀ w os, (bootS w os).abs = ⟨boot_heap w.params, #[], boot_drawn, boot_toks, os⟩ := fun w os => by kernel_rfl
theorem left_run {p q : Program} {loose : List Str} {Xt : Shared → Bool} {α : Type} {Yf : Shared → α} {Ya : World → α} {N : Nat} {g0 : Bool} {ann : Option Value} {M : Nat} {ns : List (Str × NameKind)}
    (e : opening p = plainProg ns) (e2 : ns = p.main.scope.names) (hN : Nat.ble 600 N = true) (f : ∀ s, fenceModules? p s = some s)
    (size : ∀ w : World, ((boot_heap w.params).isNs mainGlobals && (#[] : Array GenState).size == 0, (boot_heap w.params).objs.size, (boot_heap w.params).nsMap mainGlobals "__annotations__") = (true, 11, ann))
    (le : Nat.ble M N = true)
    (chkA : ∀ w os, (runG through (stepOk 11 ann) (PySem.W.stepT (PySem.denote treeTable) p w) M (bootS w os) (topStub p)).map (fun s => (staticsOk (importedModules p.main.body) (boot_heap w.params) s.abs.heap && namesBound p s.abs.heap && gensDone s.abs && laidKept (boot_heap w.params) s.abs.heap, Yf s.abs)) = some (true, Ya w))
    (chkB : ∀ w os, (runG through (stepOk 11 ann) (PySem.W.stepT (PySem.denote treeTable) p w) M (bootS w os) (topStub p)).map (fun s => ((openSeen q loose (importedModules p.main.body) Xt g0 s.abs).1, (openSeen q loose (importedModules p.main.body) Xt g0 s.abs).2.1)) = some (expectedOf q, bltViewBooted))
    (chkC : ∀ w os, (runG through (stepOk 11 ann) (PySem.W.stepT (PySem.denote treeTable) p w) M (bootS w os) (topStub p)).map (fun s => ((openSeen q loose (importedModules p.main.body) Xt g0 s.abs).2.2.1, (openSeen q loose (importedModules p.main.body) Xt g0 s.abs).2.2.2.1, (openSeen q loose (importedModules p.main.body) Xt g0 s.abs).2.2.2.2.1)) = some (true, true, pinGoodD (drecsOf q)))
    (chkD : ∀ w os, (runG through (stepOk 11 ann) (PySem.W.stepT (PySem.denote treeTable) p w) M (bootS w os) (topStub p)).map (fun s => (openSeen q loose (importedModules p.main.body) Xt g0 s.abs).2.2.2.2.2.1) = some (plainGoodE q (looseW q loose)))
    (chkE : ∀ w os, (runG through (stepOk 11 ann) (PySem.W.stepT (PySem.denote treeTable) p w) M (bootS w os) (topStub p)).map (fun s => (openSeen q loose (importedModules p.main.body) Xt g0 s.abs).2.2.2.2.2.2) = some (plainGoodD q loose, wideGood q, clsGoodW q loose)) :
    LeftO p q loose Xt Yf Ya N g0 := fun w => by
  subst e2
  obtain ⟨s₀, h0, hv⟩ := Option.map_eq_some_iff.mp (boot_open e hN f w)
  have hs0 : s₀ = ⟨boot_heap w.params, #[], boot_drawn, boot_toks, s₀.os⟩ := by
    cases s₀
    simp only [Prod.mk.injEq] at hv
    obtain ⟨v1, v2, v3, v4⟩ := hv
    rw [v1, v2, v3, v4]
  generalize s₀.os = os at hs0
  subst hs0
  have hz := size w
  simp only [Prod.mk.injEq] at hz
  obtain ⟨z1, z2, z3⟩ := hz
  obtain ⟨s, hr, hs⟩ := Option.map_eq_some_iff.mp (chkA w os)
  have at_ : ∀ {β : Type} {F : SharedT → β} {y : β}, (runG through (stepOk 11 ann) (PySem.W.stepT (PySem.denote treeTable) p w) M (bootS w os) (topStub p)).map F = some y → F s = y := fun {β F y} h => by
    rw [hr] at h
    exact Option.some.inj h
  obtain ⟨l1, l3⟩ : _ ∧ _ := Prod.mk.inj hs
  have l2 : openSeen q loose (importedModules p.main.body) Xt g0 s.abs = openGood q loose := by
    have hB := at_ (chkB w os)
    have hC := at_ (chkC w os)
    obtain ⟨b1, b2⟩ := Prod.mk.inj hB
    obtain ⟨b3, hC⟩ := Prod.mk.inj hC
    obtain ⟨b4, b5⟩ := Prod.mk.inj hC
    exact Prod.ext b1 (Prod.ext b2 (Prod.ext b3 (Prod.ext b4 (Prod.ext b5 (Prod.ext (at_ (chkD w os)) (at_ (chkE w os)))))))
  have r := topRun_mono (N - M) _ _ _ _ (runG_top _ _ _ _ hr)
  rw [show M + (N - M) = N by have := Nat.le_of_ble_eq_true le; (first | lia | omega), bootS_abs] at r
  have t : topFrom treeTable p w N ⟨boot_heap w.params, #[], boot_drawn, boot_toks, os⟩ = some s.abs := by
    simp only [topFrom, z1, z2, z3, r, l1, Option.bind_some]
  simp only [openEnds, h0, t, l2, l3, Option.bind_some, Option.map_some]
end Mine
end
section
open PySem PySem.W PyProof.Rows PySem.Spec PySem.Calls
namespace Mine
noncomputable def fragAt : List Addr → Heap → Frag
  | [], _ => []
  | a :: as, h => match h.get? a with
    | some o => (a, o) :: fragAt as h
    | none => fragAt as h
theorem fragAt_in : ∀ (as : List Addr) (h : Heap), (fragAt as h).In h
  | [], _, _, _, e => by cases e
  | a :: as, h, b, o, e => by
    unfold fragAt at e
    cases ha : h.get? a with
    | none => rw [ha] at e; exact fragAt_in as h b o e
    | some o' =>
      rw [ha] at e
      rw [List.lookup_cons] at e
      by_cases hb : b = a
      · subst hb
        simp at e
        rw [ha, e]
      · rw [show (b == a) = false by simpa using hb] at e
        exact fragAt_in as h b o e
noncomputable def fnAtP (p : Program) (k : Nat) : Option Fn := p.main.body[k]?.bind fnOf
noncomputable def FkP (p : Program) (k : Nat) : Fn := match fnAtP p k with
  | some F => F
  | none => ⟨Str.ofString "", [], ⟨.function, [], false, false, []⟩, []⟩
noncomputable def prmP (p : Program) (k : Nat) : Arguments := match p.main.body[k]? with
  | some (.FunctionDef _ args _ _ _ _ _ _ _ _) => args
  | _ => ⟨[], [], none, [], [], none, []⟩
noncomputable def nsRef (K : Frag) (x : Str) : Bool := match nsIn K mainGlobals x with
  | some (some (.ref _)) => true
  | _ => false
theorem nsRef_eq {K : Frag} {x : Str} (h : nsRef K x = true) : nsIn K mainGlobals x = some (some (.ref (adK K x))) := by
  unfold nsRef at h
  unfold adK
  split at h
  · rename_i a e; rw [e]
  · cases h
structure Seen1 where
  ns : Bool
  fn : Bool
  code : Option Str
  qn : Str
  body : FuncBody
  clo : List (Str × Addr)
  glob : Addr
  bi : Addr
  sc : Scope
  prm : Arguments
  df : Value
  kd : Value
noncomputable def seen1 (K : Frag) (x : Str) : Seen1 := ⟨nsRef K x, (fnIn K (adK K x)).isSome, codeQ K (fdK K x).code, (fdK K x).qualname, (fdK K x).body, (fdK K x).closure, (fdK K x).globals, (fdK K x).builtins, (fdK K x).scope, (fdK K x).params, (fdK K x).defaults, (fdK K x).kwdefaults⟩
noncomputable def want1 (p : Program) (x : Str) (k : Nat) : Seen1 := ⟨true, true, some x, x, .stmts (FkP p k).body, [], mainGlobals, builtinsNs, (FkP p k).scope, prmP p k, .none, .none⟩
noncomputable def obsL (K : Frag) : List (Str × Nat) → List Seen1
  | [] => []
  | x :: r => seen1 K x.1 :: obsL K r
noncomputable def wantL (p : Program) : List (Str × Nat) → List Seen1
  | [] => []
  | x :: r => want1 p x.1 x.2 :: wantL p r
theorem obsL_mem {K : Frag} {p : Program} : ∀ {l : List (Str × Nat)}, obsL K l = wantL p l → ∀ x ∈ l, seen1 K x.1 = want1 p x.1 x.2
  | [], _, _, h => by cases h
  | y :: r, e, x, h => by
    injection e with e1 e2
    rcases List.mem_cons.mp h with rfl | h
    · exact e1
    · exact obsL_mem e2 x h
noncomputable def biL (K : Frag) : List Str → List (Option (Option Value))
  | [] => []
  | x :: r => nsIn K mainGlobals x :: biL K r
noncomputable def noneL : List Str → List (Option (Option Value))
  | [] => []
  | _ :: r => some none :: noneL r
theorem biL_mem {K : Frag} : ∀ {l : List Str}, biL K l = noneL l → ∀ x ∈ l, nsIn K mainGlobals x = some none
  | [], _, _, h => by cases h
  | y :: r, e, x, h => by
    injection e with e1 e2
    rcases List.mem_cons.mp h with rfl | h
    · exact e1
    · exact biL_mem e2 x h
structure SeenAll where
  fs : List Seen1
  bs : List (Option (Option Value))
  n0 : Bool
  t0 : Option (Value × Int × Int)
  n1 : Bool
  t1 : Option (Value × Int × Int)
noncomputable def theFns : List (Str × Nat) := [(Str.ofString "gcd", 3), (Str.ofString "gcd_all", 5), (Str.ofString "rat", 10), (Str.ofString "radd", 11), (Str.ofString "rsub", 12), (Str.ofString "rmul", 13), (Str.ofString "rdiv", 14), (Str.ofString "rneg", 15), (Str.ofString "is_vast", 16), (Str.ofString "let", 18), (Str.ofString "mixed", 19), (Str.ofString "smul", 20), (Str.ofString "sinverse", 21), (Str.ofString "qtrim", 23), (Str.ofString "qadd", 24), (Str.ofString "qneg", 25), (Str.ofString "qsub", 26), (Str.ofString "qscale", 27), (Str.ofString "qmul", 28), (Str.ofString "ztrim", 30), (Str.ofString "zdegree", 31), (Str.ofString "zlead", 32), (Str.ofString "zadd", 33), (Str.ofString "zneg", 34), (Str.ofString "zsub", 35), (Str.ofString "zscale", 36), (Str.ofString "zraise", 37), (Str.ofString "zcontent", 38), (Str.ofString "zdivided", 39), (Str.ofString "zprimitive", 40), (Str.ofString "zderive", 41), (Str.ofString "check_bottom", 43), (Str.ofString "pseudo", 45), (Str.ofString "zpseudo_rest", 46), (Str.ofString "next_height", 48), (Str.ofString "subresultants", 49), (Str.ofString "zgcd", 50), (Str.ofString "sign_of", 52), (Str.ofString "end_sign", 54), (Str.ofString "sign_at", 55), (Str.ofString "simple_part", 56), (Str.ofString "lessened", 57), (Str.ofString "next_of_row", 58), (Str.ofString "sturm_row", 59), (Str.ofString "changes_at", 60), (Str.ofString "count_by_row", 61), (Str.ofString "count_roots", 62), (Str.ofString "_law_draw", 64), (Str.ofString "_law_rows", 65), (Str.ofString "_law_ways", 66), (Str.ofString "law", 67)]
noncomputable def theBis : List Str := [Str.ofString "len", Str.ofString "abs", Str.ofString "max", Str.ofString "min", Str.ofString "list", Str.ofString "sum", Str.ofString "isinstance", Str.ofString "int", Str.ofString "range", Str.ofString "enumerate", Str.ofString "str"]
noncomputable def theAs : List Addr := [3, 40, 41, 54, 55, 63, 64, 70, 71, 77, 78, 84, 85, 91, 92, 98, 99, 105, 106, 112, 113, 119, 120, 124, 125, 131, 132, 138, 139, 143, 144, 148, 149, 155, 156, 160, 161, 167, 168, 174, 175, 181, 182, 188, 189, 193, 194, 198, 199, 205, 206, 210, 211, 217, 218, 224, 225, 229, 230, 236, 237, 241, 242, 248, 249, 262, 263, 269, 270, 276, 277, 283, 284, 290, 291, 297, 298, 311, 312, 318, 319, 325, 326, 330, 331, 337, 338, 344, 345, 349, 350, 356, 357, 363, 364, 370, 371, 377, 378, 384, 385, 389, 390, 56, 57]
noncomputable def seenK (K : Frag) : SeenAll := ⟨obsL K theFns, biL K theBis, nsRef K (Str.ofString "R0"), tupIn K (adK K (Str.ofString "R0")), nsRef K (Str.ofString "R1"), tupIn K (adK K (Str.ofString "R1"))⟩
noncomputable def wantK (p : Program) : SeenAll := ⟨wantL p theFns, noneL theBis, true, some (.type "tuple", 0, 1), true, some (.type "tuple", 1, 1)⟩
noncomputable def theHook (p : Program) : Hook := ⟨SeenAll, fun s => seenK (fragAt theAs s.heap), fun _ => wantK p, fun _ h => ∃ K : Frag, K.In h ∧ seenK K = wantK p,
  fun _ s e => ⟨fragAt theAs s.heap, fragAt_in _ _, e⟩, fun _ _ _ x k => let ⟨K, i, e⟩ := x; ⟨K, i.keeps k, e⟩⟩
noncomputable def BindOK (A : Arguments) (ps : List Str) : Prop := ∀ (nm qn : Str) (body : FuncBody) (sc : Scope) (gl : Addr) (cl : List (Str × Addr)) (doc pm : Value) (an : Option Addr) (code ct : Value) (bi : Addr) (vs : List Value), vs.length = ps.length →
  bindArgs ⟨nm, qn, A, body, sc, gl, cl, .none, .none, doc, pm, an, code, ct, bi⟩ ⟨vs, []⟩ = pure (ps.zip vs)
theorem fn_of {K : Frag} {x : Str} {k : Nat} (h : seen1 K x = want1 PySem.Challenge.pw_xm0100_01 x k) (hat : fnAt k = some (Fk k)) (ok : scopeOK (Fk k).scope (Fk k).params = true) (bind : BindOK (prmP PySem.Challenge.pw_xm0100_01 k) (Fk k).params) : FnFacts K x k := by
  have hF : FkP PySem.Challenge.pw_xm0100_01 k = Fk k := rfl
  unfold seen1 want1 at h
  rw [hF] at h
  injection h with h1 h2 h3 h4 h5 h6 h7 h8 h9 h10 h11 h12
  refine ⟨nsRef_eq h1, ?_, by rw [h3, h4], h5, h6, h7, h8, h9, hat, ok, fun vs hv => ?_⟩
  · obtain ⟨fd, e⟩ := Option.isSome_iff_exists.mp h2
    rw [e]
    unfold fdK
    rw [e]
  · generalize fdK K x = fd at *
    obtain ⟨nm, qn, A, body, sc, gl, cl, df, kd, doc, pm, an, code, ct, bi⟩ := fd
    dsimp only at h10 h11 h12
    subst h10 h11 h12
    exact bind _ _ _ _ _ _ _ _ _ _ _ _ vs hv
theorem len2 {α : Type} {l : List α} (h : l.length = 2) : ∃ a b, l = [a, b] := by
  cases l with
  | nil => cases h
  | cons a l =>
    obtain ⟨b, rfl⟩ := List.length_eq_one_iff.mp (Nat.succ.inj h)
    exact ⟨a, b, rfl⟩
theorem len3 {α : Type} {l : List α} (h : l.length = 3) : ∃ a b c, l = [a, b, c] := by
  cases l with
  | nil => cases h
  | cons a l =>
    obtain ⟨b, c, rfl⟩ := len2 (Nat.succ.inj h)
    exact ⟨a, b, c, rfl⟩
theorem bind1 {A : Arguments} {ps : List Str} (hn : ps.length = 1) (h : ∀ nm qn body sc gl cl doc pm an code ct bi a, bindArgs ⟨nm, qn, A, body, sc, gl, cl, .none, .none, doc, pm, an, code, ct, bi⟩ ⟨[a], []⟩ = pure (ps.zip [a])) : BindOK A ps := fun nm qn body sc gl cl doc pm an code ct bi vs hv => by
  obtain ⟨a, rfl⟩ := List.length_eq_one_iff.mp (hv.trans hn)
  exact h ..
theorem bind2 {A : Arguments} {ps : List Str} (hn : ps.length = 2) (h : ∀ nm qn body sc gl cl doc pm an code ct bi a b, bindArgs ⟨nm, qn, A, body, sc, gl, cl, .none, .none, doc, pm, an, code, ct, bi⟩ ⟨[a, b], []⟩ = pure (ps.zip [a, b])) : BindOK A ps := fun nm qn body sc gl cl doc pm an code ct bi vs hv => by
  obtain ⟨a, b, rfl⟩ := len2 (hv.trans hn)
  exact h ..
theorem bind3 {A : Arguments} {ps : List Str} (hn : ps.length = 3) (h : ∀ nm qn body sc gl cl doc pm an code ct bi a b c, bindArgs ⟨nm, qn, A, body, sc, gl, cl, .none, .none, doc, pm, an, code, ct, bi⟩ ⟨[a, b, c], []⟩ = pure (ps.zip [a, b, c])) : BindOK A ps := fun nm qn body sc gl cl doc pm an code ct bi vs hv => by
  obtain ⟨a, b, c, rfl⟩ := len3 (hv.trans hn)
  exact h ..
theorem facts_of {K : Frag} (e : seenK K = wantK PySem.Challenge.pw_xm0100_01) : TopFacts K := by
  unfold seenK wantK at e
  injection e with ef eb en0 et0 en1 et1
  have f := obsL_mem ef
  have b := biL_mem eb
  have f3 : FnFacts K (Str.ofString "gcd") 3 := fn_of (f (Str.ofString "gcd", 3) (by decide +kernel)) (by kernel_rfl) (by decide +kernel) (bind2 (by kernel_rfl) fun _ _ _ _ _ _ _ _ _ _ _ _ a b => by kernel_rfl)
  have f5 : FnFacts K (Str.ofString "gcd_all") 5 := fn_of (f (Str.ofString "gcd_all", 5) (by decide +kernel)) (by kernel_rfl) (by decide +kernel) (bind1 (by kernel_rfl) fun _ _ _ _ _ _ _ _ _ _ _ _ a => by kernel_rfl)
  have f10 : FnFacts K (Str.ofString "rat") 10 := fn_of (f (Str.ofString "rat", 10) (by decide +kernel)) (by kernel_rfl) (by decide +kernel) (bind2 (by kernel_rfl) fun _ _ _ _ _ _ _ _ _ _ _ _ a b => by kernel_rfl)
  have f11 : FnFacts K (Str.ofString "radd") 11 := fn_of (f (Str.ofString "radd", 11) (by decide +kernel)) (by kernel_rfl) (by decide +kernel) (bind2 (by kernel_rfl) fun _ _ _ _ _ _ _ _ _ _ _ _ a b => by kernel_rfl)
  have f12 : FnFacts K (Str.ofString "rsub") 12 := fn_of (f (Str.ofString "rsub", 12) (by decide +kernel)) (by kernel_rfl) (by decide +kernel) (bind2 (by kernel_rfl) fun _ _ _ _ _ _ _ _ _ _ _ _ a b => by kernel_rfl)
  have f13 : FnFacts K (Str.ofString "rmul") 13 := fn_of (f (Str.ofString "rmul", 13) (by decide +kernel)) (by kernel_rfl) (by decide +kernel) (bind2 (by kernel_rfl) fun _ _ _ _ _ _ _ _ _ _ _ _ a b => by kernel_rfl)
  have f14 : FnFacts K (Str.ofString "rdiv") 14 := fn_of (f (Str.ofString "rdiv", 14) (by decide +kernel)) (by kernel_rfl) (by decide +kernel) (bind2 (by kernel_rfl) fun _ _ _ _ _ _ _ _ _ _ _ _ a b => by kernel_rfl)
  have f15 : FnFacts K (Str.ofString "rneg") 15 := fn_of (f (Str.ofString "rneg", 15) (by decide +kernel)) (by kernel_rfl) (by decide +kernel) (bind1 (by kernel_rfl) fun _ _ _ _ _ _ _ _ _ _ _ _ a => by kernel_rfl)
  have f16 : FnFacts K (Str.ofString "is_vast") 16 := fn_of (f (Str.ofString "is_vast", 16) (by decide +kernel)) (by kernel_rfl) (by decide +kernel) (bind1 (by kernel_rfl) fun _ _ _ _ _ _ _ _ _ _ _ _ a => by kernel_rfl)
  have f18 : FnFacts K (Str.ofString "let") 18 := fn_of (f (Str.ofString "let", 18) (by decide +kernel)) (by kernel_rfl) (by decide +kernel) (bind1 (by kernel_rfl) fun _ _ _ _ _ _ _ _ _ _ _ _ a => by kernel_rfl)
  have f19 : FnFacts K (Str.ofString "mixed") 19 := fn_of (f (Str.ofString "mixed", 19) (by decide +kernel)) (by kernel_rfl) (by decide +kernel) (bind3 (by kernel_rfl) fun _ _ _ _ _ _ _ _ _ _ _ _ a b c => by kernel_rfl)
  have f20 : FnFacts K (Str.ofString "smul") 20 := fn_of (f (Str.ofString "smul", 20) (by decide +kernel)) (by kernel_rfl) (by decide +kernel) (bind2 (by kernel_rfl) fun _ _ _ _ _ _ _ _ _ _ _ _ a b => by kernel_rfl)
  have f21 : FnFacts K (Str.ofString "sinverse") 21 := fn_of (f (Str.ofString "sinverse", 21) (by decide +kernel)) (by kernel_rfl) (by decide +kernel) (bind1 (by kernel_rfl) fun _ _ _ _ _ _ _ _ _ _ _ _ a => by kernel_rfl)
  have f23 : FnFacts K (Str.ofString "qtrim") 23 := fn_of (f (Str.ofString "qtrim", 23) (by decide +kernel)) (by kernel_rfl) (by decide +kernel) (bind1 (by kernel_rfl) fun _ _ _ _ _ _ _ _ _ _ _ _ a => by kernel_rfl)
  have f24 : FnFacts K (Str.ofString "qadd") 24 := fn_of (f (Str.ofString "qadd", 24) (by decide +kernel)) (by kernel_rfl) (by decide +kernel) (bind2 (by kernel_rfl) fun _ _ _ _ _ _ _ _ _ _ _ _ a b => by kernel_rfl)
  have f25 : FnFacts K (Str.ofString "qneg") 25 := fn_of (f (Str.ofString "qneg", 25) (by decide +kernel)) (by kernel_rfl) (by decide +kernel) (bind1 (by kernel_rfl) fun _ _ _ _ _ _ _ _ _ _ _ _ a => by kernel_rfl)
  have f26 : FnFacts K (Str.ofString "qsub") 26 := fn_of (f (Str.ofString "qsub", 26) (by decide +kernel)) (by kernel_rfl) (by decide +kernel) (bind2 (by kernel_rfl) fun _ _ _ _ _ _ _ _ _ _ _ _ a b => by kernel_rfl)
  have f27 : FnFacts K (Str.ofString "qscale") 27 := fn_of (f (Str.ofString "qscale", 27) (by decide +kernel)) (by kernel_rfl) (by decide +kernel) (bind2 (by kernel_rfl) fun _ _ _ _ _ _ _ _ _ _ _ _ a b => by kernel_rfl)
  have f28 : FnFacts K (Str.ofString "qmul") 28 := fn_of (f (Str.ofString "qmul", 28) (by decide +kernel)) (by kernel_rfl) (by decide +kernel) (bind2 (by kernel_rfl) fun _ _ _ _ _ _ _ _ _ _ _ _ a b => by kernel_rfl)
  have f30 : FnFacts K (Str.ofString "ztrim") 30 := fn_of (f (Str.ofString "ztrim", 30) (by decide +kernel)) (by kernel_rfl) (by decide +kernel) (bind1 (by kernel_rfl) fun _ _ _ _ _ _ _ _ _ _ _ _ a => by kernel_rfl)
  have f31 : FnFacts K (Str.ofString "zdegree") 31 := fn_of (f (Str.ofString "zdegree", 31) (by decide +kernel)) (by kernel_rfl) (by decide +kernel) (bind1 (by kernel_rfl) fun _ _ _ _ _ _ _ _ _ _ _ _ a => by kernel_rfl)
  have f32 : FnFacts K (Str.ofString "zlead") 32 := fn_of (f (Str.ofString "zlead", 32) (by decide +kernel)) (by kernel_rfl) (by decide +kernel) (bind1 (by kernel_rfl) fun _ _ _ _ _ _ _ _ _ _ _ _ a => by kernel_rfl)
  have f33 : FnFacts K (Str.ofString "zadd") 33 := fn_of (f (Str.ofString "zadd", 33) (by decide +kernel)) (by kernel_rfl) (by decide +kernel) (bind2 (by kernel_rfl) fun _ _ _ _ _ _ _ _ _ _ _ _ a b => by kernel_rfl)
  have f34 : FnFacts K (Str.ofString "zneg") 34 := fn_of (f (Str.ofString "zneg", 34) (by decide +kernel)) (by kernel_rfl) (by decide +kernel) (bind1 (by kernel_rfl) fun _ _ _ _ _ _ _ _ _ _ _ _ a => by kernel_rfl)
  have f35 : FnFacts K (Str.ofString "zsub") 35 := fn_of (f (Str.ofString "zsub", 35) (by decide +kernel)) (by kernel_rfl) (by decide +kernel) (bind2 (by kernel_rfl) fun _ _ _ _ _ _ _ _ _ _ _ _ a b => by kernel_rfl)
  have f36 : FnFacts K (Str.ofString "zscale") 36 := fn_of (f (Str.ofString "zscale", 36) (by decide +kernel)) (by kernel_rfl) (by decide +kernel) (bind2 (by kernel_rfl) fun _ _ _ _ _ _ _ _ _ _ _ _ a b => by kernel_rfl)
  have f37 : FnFacts K (Str.ofString "zraise") 37 := fn_of (f (Str.ofString "zraise", 37) (by decide +kernel)) (by kernel_rfl) (by decide +kernel) (bind2 (by kernel_rfl) fun _ _ _ _ _ _ _ _ _ _ _ _ a b => by kernel_rfl)
  have f38 : FnFacts K (Str.ofString "zcontent") 38 := fn_of (f (Str.ofString "zcontent", 38) (by decide +kernel)) (by kernel_rfl) (by decide +kernel) (bind1 (by kernel_rfl) fun _ _ _ _ _ _ _ _ _ _ _ _ a => by kernel_rfl)
  have f39 : FnFacts K (Str.ofString "zdivided") 39 := fn_of (f (Str.ofString "zdivided", 39) (by decide +kernel)) (by kernel_rfl) (by decide +kernel) (bind2 (by kernel_rfl) fun _ _ _ _ _ _ _ _ _ _ _ _ a b => by kernel_rfl)
  have f40 : FnFacts K (Str.ofString "zprimitive") 40 := fn_of (f (Str.ofString "zprimitive", 40) (by decide +kernel)) (by kernel_rfl) (by decide +kernel) (bind1 (by kernel_rfl) fun _ _ _ _ _ _ _ _ _ _ _ _ a => by kernel_rfl)
  have f41 : FnFacts K (Str.ofString "zderive") 41 := fn_of (f (Str.ofString "zderive", 41) (by decide +kernel)) (by kernel_rfl) (by decide +kernel) (bind1 (by kernel_rfl) fun _ _ _ _ _ _ _ _ _ _ _ _ a => by kernel_rfl)
  have f43 : FnFacts K (Str.ofString "check_bottom") 43 := fn_of (f (Str.ofString "check_bottom", 43) (by decide +kernel)) (by kernel_rfl) (by decide +kernel) (bind1 (by kernel_rfl) fun _ _ _ _ _ _ _ _ _ _ _ _ a => by kernel_rfl)
  have f45 : FnFacts K (Str.ofString "pseudo") 45 := fn_of (f (Str.ofString "pseudo", 45) (by decide +kernel)) (by kernel_rfl) (by decide +kernel) (bind2 (by kernel_rfl) fun _ _ _ _ _ _ _ _ _ _ _ _ a b => by kernel_rfl)
  have f46 : FnFacts K (Str.ofString "zpseudo_rest") 46 := fn_of (f (Str.ofString "zpseudo_rest", 46) (by decide +kernel)) (by kernel_rfl) (by decide +kernel) (bind2 (by kernel_rfl) fun _ _ _ _ _ _ _ _ _ _ _ _ a b => by kernel_rfl)
  have f48 : FnFacts K (Str.ofString "next_height") 48 := fn_of (f (Str.ofString "next_height", 48) (by decide +kernel)) (by kernel_rfl) (by decide +kernel) (bind3 (by kernel_rfl) fun _ _ _ _ _ _ _ _ _ _ _ _ a b c => by kernel_rfl)
  have f49 : FnFacts K (Str.ofString "subresultants") 49 := fn_of (f (Str.ofString "subresultants", 49) (by decide +kernel)) (by kernel_rfl) (by decide +kernel) (bind2 (by kernel_rfl) fun _ _ _ _ _ _ _ _ _ _ _ _ a b => by kernel_rfl)
  have f50 : FnFacts K (Str.ofString "zgcd") 50 := fn_of (f (Str.ofString "zgcd", 50) (by decide +kernel)) (by kernel_rfl) (by decide +kernel) (bind2 (by kernel_rfl) fun _ _ _ _ _ _ _ _ _ _ _ _ a b => by kernel_rfl)
  have f52 : FnFacts K (Str.ofString "sign_of") 52 := fn_of (f (Str.ofString "sign_of", 52) (by decide +kernel)) (by kernel_rfl) (by decide +kernel) (bind1 (by kernel_rfl) fun _ _ _ _ _ _ _ _ _ _ _ _ a => by kernel_rfl)
  have f54 : FnFacts K (Str.ofString "end_sign") 54 := fn_of (f (Str.ofString "end_sign", 54) (by decide +kernel)) (by kernel_rfl) (by decide +kernel) (bind2 (by kernel_rfl) fun _ _ _ _ _ _ _ _ _ _ _ _ a b => by kernel_rfl)
  have f55 : FnFacts K (Str.ofString "sign_at") 55 := fn_of (f (Str.ofString "sign_at", 55) (by decide +kernel)) (by kernel_rfl) (by decide +kernel) (bind2 (by kernel_rfl) fun _ _ _ _ _ _ _ _ _ _ _ _ a b => by kernel_rfl)
  have f56 : FnFacts K (Str.ofString "simple_part") 56 := fn_of (f (Str.ofString "simple_part", 56) (by decide +kernel)) (by kernel_rfl) (by decide +kernel) (bind1 (by kernel_rfl) fun _ _ _ _ _ _ _ _ _ _ _ _ a => by kernel_rfl)
  have f57 : FnFacts K (Str.ofString "lessened") 57 := fn_of (f (Str.ofString "lessened", 57) (by decide +kernel)) (by kernel_rfl) (by decide +kernel) (bind1 (by kernel_rfl) fun _ _ _ _ _ _ _ _ _ _ _ _ a => by kernel_rfl)
  have f58 : FnFacts K (Str.ofString "next_of_row") 58 := fn_of (f (Str.ofString "next_of_row", 58) (by decide +kernel)) (by kernel_rfl) (by decide +kernel) (bind2 (by kernel_rfl) fun _ _ _ _ _ _ _ _ _ _ _ _ a b => by kernel_rfl)
  have f59 : FnFacts K (Str.ofString "sturm_row") 59 := fn_of (f (Str.ofString "sturm_row", 59) (by decide +kernel)) (by kernel_rfl) (by decide +kernel) (bind1 (by kernel_rfl) fun _ _ _ _ _ _ _ _ _ _ _ _ a => by kernel_rfl)
  have f60 : FnFacts K (Str.ofString "changes_at") 60 := fn_of (f (Str.ofString "changes_at", 60) (by decide +kernel)) (by kernel_rfl) (by decide +kernel) (bind2 (by kernel_rfl) fun _ _ _ _ _ _ _ _ _ _ _ _ a b => by kernel_rfl)
  have f61 : FnFacts K (Str.ofString "count_by_row") 61 := fn_of (f (Str.ofString "count_by_row", 61) (by decide +kernel)) (by kernel_rfl) (by decide +kernel) (bind3 (by kernel_rfl) fun _ _ _ _ _ _ _ _ _ _ _ _ a b c => by kernel_rfl)
  have f62 : FnFacts K (Str.ofString "count_roots") 62 := fn_of (f (Str.ofString "count_roots", 62) (by decide +kernel)) (by kernel_rfl) (by decide +kernel) (bind3 (by kernel_rfl) fun _ _ _ _ _ _ _ _ _ _ _ _ a b c => by kernel_rfl)
  have f64 : FnFacts K (Str.ofString "_law_draw") 64 := fn_of (f (Str.ofString "_law_draw", 64) (by decide +kernel)) (by kernel_rfl) (by decide +kernel) (bind2 (by kernel_rfl) fun _ _ _ _ _ _ _ _ _ _ _ _ a b => by kernel_rfl)
  have f65 : FnFacts K (Str.ofString "_law_rows") 65 := fn_of (f (Str.ofString "_law_rows", 65) (by decide +kernel)) (by kernel_rfl) (by decide +kernel) (bind2 (by kernel_rfl) fun _ _ _ _ _ _ _ _ _ _ _ _ a b => by kernel_rfl)
  have f66 : FnFacts K (Str.ofString "_law_ways") 66 := fn_of (f (Str.ofString "_law_ways", 66) (by decide +kernel)) (by kernel_rfl) (by decide +kernel) (bind3 (by kernel_rfl) fun _ _ _ _ _ _ _ _ _ _ _ _ a b c => by kernel_rfl)
  have f67 : FnFacts K (Str.ofString "law") 67 := fn_of (f (Str.ofString "law", 67) (by decide +kernel)) (by kernel_rfl) (by decide +kernel) (bind1 (by kernel_rfl) fun _ _ _ _ _ _ _ _ _ _ _ _ a => by kernel_rfl)
  exact ⟨f3, f5, f10, f11, f12, f13, f14, f15, f16, f18, f19, f20, f21, f23, f24, f25, f26, f27, f28, f30, f31, f32, f33, f34, f35, f36, f37, f38, f39, f40, f41, f43, f45, f46, f48, f49, f50, f52, f54, f55, f56, f57, f58, f59, f60, f61, f62, f64, f65, f66, f67, nsRef_eq en0, et0, nsRef_eq en1, et1, b (Str.ofString "len") (by decide +kernel), b (Str.ofString "abs") (by decide +kernel), b (Str.ofString "max") (by decide +kernel), b (Str.ofString "min") (by decide +kernel), b (Str.ofString "list") (by decide +kernel), b (Str.ofString "sum") (by decide +kernel), b (Str.ofString "isinstance") (by decide +kernel), b (Str.ofString "int") (by decide +kernel), b (Str.ofString "range") (by decide +kernel), b (Str.ofString "enumerate") (by decide +kernel), b (Str.ofString "str") (by decide +kernel)⟩
end Mine
end
section
open PySem PySem.W PyProof.Rows PySem.Spec PySem.Calls
namespace Mine
noncomputable def vwOf (p : Program) : Program := view p [1, 3, 4, 5, 7, 8, 9, 10, 11, 12, 13, 14, 15, 16, 18, 19, 20, 21, 23, 24, 25, 26, 27, 28, 30, 31, 32, 33, 34, 35, 36, 37, 38, 39, 40, 41, 43, 44, 45, 46, 48, 49, 50, 52, 53, 54, 55, 56, 57, 58, 59, 60, 61, 62, 64, 65, 66, 67]
noncomputable def runP (p : Program) (sok : Nat → Option Value → Thread → Bool) (stT : (Code → Sem PySem.Fin) → Program → World → SharedT → Thread → Option (SharedT × Thread)) (den : (String → Option Builtin) → Code → Sem PySem.Fin) (tr : String → Option Builtin) (w : World) (os : OsState) : Option SharedT := runG through (sok 11 (some (.ref 6))) (stT (den tr) p w) 2100 (bootS w os) (topStub p)
noncomputable def chA (p : Program) (imp : List Stmt → List Str) (sok : Nat → Option Value → Thread → Bool) (stT : (Code → Sem PySem.Fin) → Program → World → SharedT → Thread → Option (SharedT × Thread)) (den : (String → Option Builtin) → Code → Sem PySem.Fin) (tr : String → Option Builtin) (w : World) (os : OsState) : Option (Bool × (theHook p).α) := (runP p sok stT den tr w os).map fun s => (staticsOk (imp p.main.body) (boot_heap w.params) s.abs.heap && namesBound p s.abs.heap && gensDone s.abs && laidKept (boot_heap w.params) s.abs.heap, (theHook p).obs s.abs)
noncomputable def chB (p : Program) (imp : List Stmt → List Str) (osn : Program → List Str → List Str → (Shared → Bool) → Bool → Shared → Seen × (Option Str × List (Str × Value)) × Bool × Bool × (List (Option FnShape) × Bool) × List (Option PlainShape) × List (Option (PlainShape × Bool)) × (List (Option FnShape) × Bool) × List (Option (List (Option FnShape) × Bool) × Option (PlainShape × Bool))) (sok : Nat → Option Value → Thread → Bool) (stT : (Code → Sem PySem.Fin) → Program → World → SharedT → Thread → Option (SharedT × Thread)) (den : (String → Option Builtin) → Code → Sem PySem.Fin) (tr : String → Option Builtin) (w : World) (os : OsState) : Option (Seen × (Option Str × List (Str × Value))) := (runP p sok stT den tr w os).map fun s => ((osn (vwOf p) [] (imp p.main.body) (fun s => xlAt (vwOf p) [] s && recOk (RowW.records (PySem.Challenge.rw_xm0100_01).row.toRowW) s) true s.abs).1, (osn (vwOf p) [] (imp p.main.body) (fun s => xlAt (vwOf p) [] s && recOk (RowW.records (PySem.Challenge.rw_xm0100_01).row.toRowW) s) true s.abs).2.1)
noncomputable def chC (p : Program) (imp : List Stmt → List Str) (osn : Program → List Str → List Str → (Shared → Bool) → Bool → Shared → Seen × (Option Str × List (Str × Value)) × Bool × Bool × (List (Option FnShape) × Bool) × List (Option PlainShape) × List (Option (PlainShape × Bool)) × (List (Option FnShape) × Bool) × List (Option (List (Option FnShape) × Bool) × Option (PlainShape × Bool))) (sok : Nat → Option Value → Thread → Bool) (stT : (Code → Sem PySem.Fin) → Program → World → SharedT → Thread → Option (SharedT × Thread)) (den : (String → Option Builtin) → Code → Sem PySem.Fin) (tr : String → Option Builtin) (w : World) (os : OsState) : Option (Bool × Bool × (List (Option FnShape) × Bool)) := (runP p sok stT den tr w os).map fun s => ((osn (vwOf p) [] (imp p.main.body) (fun s => xlAt (vwOf p) [] s && recOk (RowW.records (PySem.Challenge.rw_xm0100_01).row.toRowW) s) true s.abs).2.2.1, (osn (vwOf p) [] (imp p.main.body) (fun s => xlAt (vwOf p) [] s && recOk (RowW.records (PySem.Challenge.rw_xm0100_01).row.toRowW) s) true s.abs).2.2.2.1, (osn (vwOf p) [] (imp p.main.body) (fun s => xlAt (vwOf p) [] s && recOk (RowW.records (PySem.Challenge.rw_xm0100_01).row.toRowW) s) true s.abs).2.2.2.2.1)
noncomputable def chD (p : Program) (imp : List Stmt → List Str) (osn : Program → List Str → List Str → (Shared → Bool) → Bool → Shared → Seen × (Option Str × List (Str × Value)) × Bool × Bool × (List (Option FnShape) × Bool) × List (Option PlainShape) × List (Option (PlainShape × Bool)) × (List (Option FnShape) × Bool) × List (Option (List (Option FnShape) × Bool) × Option (PlainShape × Bool))) (sok : Nat → Option Value → Thread → Bool) (stT : (Code → Sem PySem.Fin) → Program → World → SharedT → Thread → Option (SharedT × Thread)) (den : (String → Option Builtin) → Code → Sem PySem.Fin) (tr : String → Option Builtin) (w : World) (os : OsState) : Option (List (Option PlainShape)) := (runP p sok stT den tr w os).map fun s => (osn (vwOf p) [] (imp p.main.body) (fun s => xlAt (vwOf p) [] s && recOk (RowW.records (PySem.Challenge.rw_xm0100_01).row.toRowW) s) true s.abs).2.2.2.2.2.1
noncomputable def chE (p : Program) (imp : List Stmt → List Str) (osn : Program → List Str → List Str → (Shared → Bool) → Bool → Shared → Seen × (Option Str × List (Str × Value)) × Bool × Bool × (List (Option FnShape) × Bool) × List (Option PlainShape) × List (Option (PlainShape × Bool)) × (List (Option FnShape) × Bool) × List (Option (List (Option FnShape) × Bool) × Option (PlainShape × Bool))) (sok : Nat → Option Value → Thread → Bool) (stT : (Code → Sem PySem.Fin) → Program → World → SharedT → Thread → Option (SharedT × Thread)) (den : (String → Option Builtin) → Code → Sem PySem.Fin) (tr : String → Option Builtin) (w : World) (os : OsState) : Option (List (Option (PlainShape × Bool)) × (List (Option FnShape) × Bool) × List (Option (List (Option FnShape) × Bool) × Option (PlainShape × Bool))) := (runP p sok stT den tr w os).map fun s => (osn (vwOf p) [] (imp p.main.body) (fun s => xlAt (vwOf p) [] s && recOk (RowW.records (PySem.Challenge.rw_xm0100_01).row.toRowW) s) true s.abs).2.2.2.2.2.2
theorem chTA : ∀ (w : World) (os : OsState), chA PySem.Challenge.pw_xm0100_01 PySem.W.Fast.tw5923862056798008813 PySem.W.Fast.tw6613529449190102663 PySem.W.Fast.tw10156331382660048174 PySem.W.Fast.tw11892475500146522536 PySem.W.Fast.tw14364793385576792824 w os = some (true, (theHook PySem.Challenge.pw_xm0100_01).val w) := fun w os => by kernel_rfl
theorem chTB : ∀ (w : World) (os : OsState), chB PySem.Challenge.pw_xm0100_01 PySem.W.Fast.tw5923862056798008813 PySem.W.Fast.tw4187177175401517315 PySem.W.Fast.tw6613529449190102663 PySem.W.Fast.tw10156331382660048174 PySem.W.Fast.tw11892475500146522536 PySem.W.Fast.tw14364793385576792824 w os = some (expectedOf (vwOf PySem.Challenge.pw_xm0100_01), bltViewBooted) := fun w os => by kernel_rfl
theorem chTC : ∀ (w : World) (os : OsState), chC PySem.Challenge.pw_xm0100_01 PySem.W.Fast.tw5923862056798008813 PySem.W.Fast.tw4187177175401517315 PySem.W.Fast.tw6613529449190102663 PySem.W.Fast.tw10156331382660048174 PySem.W.Fast.tw11892475500146522536 PySem.W.Fast.tw14364793385576792824 w os = some (true, true, pinGoodD (drecsOf (vwOf PySem.Challenge.pw_xm0100_01))) := fun w os => by kernel_rfl
theorem chTD : ∀ (w : World) (os : OsState), chD PySem.Challenge.pw_xm0100_01 PySem.W.Fast.tw5923862056798008813 PySem.W.Fast.tw4187177175401517315 PySem.W.Fast.tw6613529449190102663 PySem.W.Fast.tw10156331382660048174 PySem.W.Fast.tw11892475500146522536 PySem.W.Fast.tw14364793385576792824 w os = some (plainGoodE (vwOf PySem.Challenge.pw_xm0100_01) (looseW (vwOf PySem.Challenge.pw_xm0100_01) [])) := fun w os => by kernel_rfl
theorem chTE : ∀ (w : World) (os : OsState), chE PySem.Challenge.pw_xm0100_01 PySem.W.Fast.tw5923862056798008813 PySem.W.Fast.tw4187177175401517315 PySem.W.Fast.tw6613529449190102663 PySem.W.Fast.tw10156331382660048174 PySem.W.Fast.tw11892475500146522536 PySem.W.Fast.tw14364793385576792824 w os = some (plainGoodD (vwOf PySem.Challenge.pw_xm0100_01) [], wideGood (vwOf PySem.Challenge.pw_xm0100_01), clsGoodW (vwOf PySem.Challenge.pw_xm0100_01) []) := fun w os => by kernel_rfl
theorem chOA : ∀ (w : World) (os : OsState), chA PySem.Challenge.pw_xm0100_01 importedModules PySem.W.stepOk PySem.W.stepT PySem.denote treeTable w os = some (true, (theHook PySem.Challenge.pw_xm0100_01).val w) := fun w os => by
  rw [PySem.W.Fast.te5923862056798008813, PySem.W.Fast.te6613529449190102663, PySem.W.Fast.te10156331382660048174, PySem.W.Fast.te11892475500146522536, PySem.W.Fast.te14364793385576792824]
  exact chTA w os
theorem chOB : ∀ (w : World) (os : OsState), chB PySem.Challenge.pw_xm0100_01 importedModules PySem.W.openSeen PySem.W.stepOk PySem.W.stepT PySem.denote treeTable w os = some (expectedOf (vwOf PySem.Challenge.pw_xm0100_01), bltViewBooted) := fun w os => by
  rw [PySem.W.Fast.te5923862056798008813, PySem.W.Fast.te4187177175401517315, PySem.W.Fast.te6613529449190102663, PySem.W.Fast.te10156331382660048174, PySem.W.Fast.te11892475500146522536, PySem.W.Fast.te14364793385576792824]
  exact chTB w os
theorem chOC : ∀ (w : World) (os : OsState), chC PySem.Challenge.pw_xm0100_01 importedModules PySem.W.openSeen PySem.W.stepOk PySem.W.stepT PySem.denote treeTable w os = some (true, true, pinGoodD (drecsOf (vwOf PySem.Challenge.pw_xm0100_01))) := fun w os => by
  rw [PySem.W.Fast.te5923862056798008813, PySem.W.Fast.te4187177175401517315, PySem.W.Fast.te6613529449190102663, PySem.W.Fast.te10156331382660048174, PySem.W.Fast.te11892475500146522536, PySem.W.Fast.te14364793385576792824]
  exact chTC w os
theorem chOD : ∀ (w : World) (os : OsState), chD PySem.Challenge.pw_xm0100_01 importedModules PySem.W.openSeen PySem.W.stepOk PySem.W.stepT PySem.denote treeTable w os = some (plainGoodE (vwOf PySem.Challenge.pw_xm0100_01) (looseW (vwOf PySem.Challenge.pw_xm0100_01) [])) := fun w os => by
  rw [PySem.W.Fast.te5923862056798008813, PySem.W.Fast.te4187177175401517315, PySem.W.Fast.te6613529449190102663, PySem.W.Fast.te10156331382660048174, PySem.W.Fast.te11892475500146522536, PySem.W.Fast.te14364793385576792824]
  exact chTD w os
theorem chOE : ∀ (w : World) (os : OsState), chE PySem.Challenge.pw_xm0100_01 importedModules PySem.W.openSeen PySem.W.stepOk PySem.W.stepT PySem.denote treeTable w os = some (plainGoodD (vwOf PySem.Challenge.pw_xm0100_01) [], wideGood (vwOf PySem.Challenge.pw_xm0100_01), clsGoodW (vwOf PySem.Challenge.pw_xm0100_01) []) := fun w os => by
  rw [PySem.W.Fast.te5923862056798008813, PySem.W.Fast.te4187177175401517315, PySem.W.Fast.te6613529449190102663, PySem.W.Fast.te10156331382660048174, PySem.W.Fast.te11892475500146522536, PySem.W.Fast.te14364793385576792824]
  exact chTE w os
theorem theLeft : LeftO PySem.Challenge.pw_xm0100_01 (vwOf PySem.Challenge.pw_xm0100_01) [] (fun s => xlAt (vwOf PySem.Challenge.pw_xm0100_01) [] s && recOk (RowW.records (PySem.Challenge.rw_xm0100_01).row.toRowW) s) (theHook PySem.Challenge.pw_xm0100_01).obs (theHook PySem.Challenge.pw_xm0100_01).val 4080 true :=
  left_run (ns := PySem.Challenge.pw_xm0100_01.main.scope.names) (M := 2100) (ann := some (.ref 6)) (by kernel_rfl) rfl rfl (fun _ => rfl) (fun w => by kernel_rfl) rfl (fun w os => chOA w os) (fun w os => chOB w os) (fun w os => chOC w os) (fun w os => chOD w os) (fun w os => chOE w os)
end Mine
end
section
open PySem PySem.W PyProof.Rows PySem.Spec PySem.Calls
namespace Mine
theorem lo2 : namesResolve PySem.Challenge.pw_xm0100_01 = true := by kernel_rfl
theorem lo4 : noRoadLSs { strict := !(importedModules PySem.Challenge.pw_xm0100_01.main.body).all cThrough.contains, foot := none, bare := (["vars", "dir", "locals"] : List Str).filter (readsOut PySem.Challenge.pw_xm0100_01 PySem.Challenge.pw_xm0100_01.main.body) } PySem.Challenge.pw_xm0100_01.main.body = true := by kernel_rfl
theorem lo5 : namesMeet PySem.Challenge.pw_xm0100_01 PySem.Challenge.pw_xm0100_01.main.body (fun _ n => attrL n) = true := by kernel_rfl
theorem lo : looksOpen PySem.Challenge.pw_xm0100_01 = true := by
  unfold looksOpen
  exact look_both (look_both (look_both (look_both (look_both (by kernel_rfl) (by kernel_rfl)) lo2) (by kernel_rfl)) lo4) lo5
theorem ws0 : (PySem.Challenge.rw_xm0100_01).row.wellSaid = true := by
  unfold OpenRow.wellSaid OpenRow.partSaid
  rw [show looksOpen (PySem.Challenge.rw_xm0100_01).row.prog = true from lo]
  kernel_rfl
theorem ws : (PySem.Challenge.rw_xm0100_01).wellSaid = true := by
  unfold OpenLaw.wellSaid
  repeat' with_reducible refine look_both ?_ ?_
  · exact ws0
  all_goals kernel_rfl
end Mine
end
open PySem PySem.W PyProof.Rows
theorem PySem.Challenge.cw_xm0100_01_holds : PySem.Challenge.rw_xm0100_01.Holds := by
  w_on
  refine holds_law (l := PySem.Challenge.rw_xm0100_01) Mine.ws fun said => ?_
  refine holds_open (q := Mine.vwOf PySem.Challenge.pw_xm0100_01) (loose := []) (Xt := fun s => xlAt (Mine.vwOf PySem.Challenge.pw_xm0100_01) [] s && recOk (RowW.records (PySem.Challenge.rw_xm0100_01).row.toRowW) s) (XP := XL (Mine.vwOf PySem.Challenge.pw_xm0100_01) []) (Yf := Hook.obs (Mine.theHook PySem.Challenge.pw_xm0100_01)) (Ya := Hook.val (Mine.theHook PySem.Challenge.pw_xm0100_01)) (YP := Hook.says (Mine.theHook PySem.Challenge.pw_xm0100_01)) (N := 4080) Mine.theLeft (Hook.of _) (Hook.keeps _) (fun s e => xl_of s (Bool.and_eq_true_iff.mp e).1) XL.keeps (by rfl) (by rfl) (by rfl) (fun s e => recFacts_of (Bool.and_eq_true_iff.mp e).2) (by rfl) (by first | assumption | decide +kernel) (by decide +kernel) ⟨rfl, rfl, rfl, rfl, rfl, by decide +kernel⟩ ?hw ?hc
  case hw => w_witness2
  case hc =>
    w_strict (
      intro w s₀ s₁ mg mb G Y fa o pm cd doc dV kV ho hd hcd hD hmg hg args vals as hpre hlay hrd hwl hlo
      obtain ⟨K, KX, KE⟩ := Y
      refine Ground.open G ?_
      intro T B D TE TW
      try (refine guard_noD D (by decide +kernel) ?_; clear D)
      wrow_args hpre hlay hrd hwl hlo
      have hfa : mg (PySem.Str.ofString "law") = some (.ref fa) := hmg
      refine Mine.law_done Mine.plain_law KX T (by decide +kernel) (Mine.facts_of KE) hfa (by assumption) (by assumption) (by assumption) fun v fz' s' g rd => GoodW.toG (Mine.goodW_true g rd hg ?hn ?hp)
      case hn => intro cls; rfl
      case hp => (refine' postW_of ?sh9 ?vl9 ?eq9; (case sh9 => rfl); (case vl9 => wtm_val); (case eq9 => rfl)))
