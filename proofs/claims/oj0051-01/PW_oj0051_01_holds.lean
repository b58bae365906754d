import PyProof.Rows.All
import Wide.All
import Open.Line
import OpenK.KWalk
import OpenK.KMeth
import PyProof.ExcInit
import PyProof.InstStoreFacts
import PyProof.InstLoad
import PyProof.ExcBaseAll.Exception
import OpenK.KMore
import PyProof.ExcArgsOwn
import PyProof.RulesAs
import PyProof.NsDelKeeps
import PyProof.Rows.Catch
import Lean
import PySem.Challenge.RW_oj0051_01
set_option Elab.async false
set_option maxRecDepth 100000
set_option maxHeartbeats 8000000
noncomputable section
namespace Mine
open PySem PySem.W PyProof.Rows
/-- the law is of the form that it should have: a fact for the kernel, first in the file, for its memory -/
theorem said : PySem.Challenge.rw_oj0051_01.wellSaid = true := by decide +kernel
end Mine

namespace Mine
open PySem PySem.W PyProof.Rows

/-- the part of a value alone -/
noncomputable def val {α : Type} {P : α → Prop} (o : Option {x : α // P x}) : Option α := o.map Subtype.val
theorem val_inv {α : Type} {P : α → Prop} {o : Option {x : α // P x}} {x : α} (h : val o = some x) : P x := match o, h with
  | some y, h => Option.some.inj h ▸ y.2
/-! what is asked of the heap behind the text's top -/

noncomputable abbrev PW : Program := PySem.Challenge.pw_oj0051_01
noncomputable def recAt (i : Nat) : Option DefRec := match PW.main.body[i]? with
  | some (.FunctionDef name ps body _ _ _ sc _ _ pos) => some ⟨name, ps, body, sc, pos⟩
  | _ => none
noncomputable def eqL : List Nat → List Nat → Bool
  | [], [] => true
  | a :: r, b :: q => Nat.beq a b && eqL r q
  | _, _ => false
noncomputable def defTable : List (List Nat × Nat) := [([119, 114, 111, 110, 103, 95, 97, 114, 103, 115], 3),
  ([105, 115, 95, 98, 108, 97, 110, 107], 5),
  ([100, 105, 103, 105, 116], 6),
  ([100, 105, 103, 105, 116, 115, 95, 118, 97, 108, 117, 101], 7),
  ([98, 97, 115, 101, 95, 111, 102], 8),
  ([119, 104, 111, 108, 101, 95, 111, 102], 9),
  ([110, 101, 101, 100, 95, 119, 104, 111, 108, 101], 10),
  ([109, 111, 118, 101, 100], 11),
  ([105, 110, 100, 101, 120, 95, 111, 102], 12),
  ([119, 105, 100, 101], 13),
  ([100, 101, 102, 97, 117, 108, 116, 95, 116, 114, 105, 109], 15),
  ([116, 114, 105, 109, 95, 108, 101, 102, 116], 16),
  ([116, 114, 105, 109, 95, 114, 105, 103, 104, 116], 17),
  ([102, 105, 114, 115, 116, 95, 97, 116], 18),
  ([108, 97, 115, 116, 95, 97, 116], 19),
  ([114, 101, 112, 108, 97, 99, 101], 20),
  ([110, 101, 101, 100, 95, 119, 105, 100, 101], 22),
  ([115, 116, 114, 105, 110, 103, 95, 102, 105, 114, 115, 116], 23),
  ([115, 116, 114, 105, 110, 103, 95, 108, 97, 115, 116], 24),
  ([115, 116, 114, 105, 110, 103, 95, 105, 110, 100, 101, 120], 25),
  ([115, 116, 114, 105, 110, 103, 95, 108, 101, 110, 103, 116, 104], 26),
  ([115, 116, 114, 105, 110, 103, 95, 114, 97, 110, 103, 101], 27),
  ([115, 116, 114, 105, 110, 103, 95, 105, 110, 115, 101, 114, 116], 28),
  ([115, 116, 114, 105, 110, 103, 95, 114, 101, 112, 101, 97, 116], 29),
  ([115, 116, 114, 105, 110, 103, 95, 114, 101, 112, 108, 97, 99, 101], 30),
  ([115, 116, 114, 105, 110, 103, 95, 114, 101, 118, 101, 114, 115, 101], 31),
  ([116, 114, 105, 109, 95, 115, 105, 103, 110, 115], 32),
  ([115, 116, 114, 105, 110, 103, 95, 116, 114, 105, 109], 33),
  ([115, 116, 114, 105, 110, 103, 95, 116, 114, 105, 109, 108, 101, 102, 116], 34),
  ([115, 116, 114, 105, 110, 103, 95, 116, 114, 105, 109, 114, 105, 103, 104, 116], 35),
  ([95, 108, 97, 119, 95, 116, 111, 108, 100], 37),
  ([95, 108, 97, 119, 95, 117, 115, 97, 103, 101, 115], 38),
  ([95, 108, 97, 119, 95, 100, 114, 97, 119], 39),
  ([95, 108, 97, 119, 95, 116, 117, 114, 110, 101, 100], 40),
  ([95, 108, 97, 119, 95, 109, 97, 114, 107, 101, 100], 41),
  ([95, 108, 97, 119, 95, 105, 110, 100, 101, 120], 42),
  ([95, 108, 97, 119, 95, 99, 97, 108, 108], 43),
  ([95, 108, 97, 119, 95, 104, 101, 97, 114, 100], 44),
  ([95, 108, 97, 119, 95, 102, 111, 117, 110, 100], 45),
  ([95, 108, 97, 119, 95, 114, 101, 112, 108, 97, 99, 101, 100], 46),
  ([95, 108, 97, 119, 95, 116, 114, 105, 109, 109, 101, 100], 47),
  ([95, 108, 97, 119, 95, 109, 97, 100, 101], 48),
  ([95, 108, 97, 119, 95, 114, 101, 112, 101, 97, 116, 101, 100], 49),
  ([95, 108, 97, 119, 95, 100, 117, 101], 50),
  ([95, 108, 97, 119, 95, 114, 111, 119, 95, 114, 105, 103, 104, 116], 51),
  ([108, 97, 119], 52)]
noncomputable def seekT (x : List Nat) : List (List Nat × Nat) → Option Nat
  | [] => none
  | (y, i) :: r => match eqL x y with
    | true => some i
    | false => seekT x r
/-- the text's defs (but error, whose calls are read as raises) -/
noncomputable def D0 (f : Str) : Option DefRec := (seekT f.cps.toList defTable).bind recAt

noncomputable abbrev FnLook := Value × FuncBody × Scope × Arguments × Value × Str × Nat × Nat × Nat × Value × Value
set_option genInjectivity false in
set_option genSizeOf false in
/-- an object's data, looked at once -/
structure Dw (d : Data) where
  fn : Option {x : FuncData // d = .func x} := none
  cl : Option {x : ClassData // d = .cls x} := none
  fl : Option {x : Array Value // d = .fields x} := none
  sq : Option {x : Array Value × Nat // d = .seq x.1 x.2} := none
noncomputable def dw (d : Data) : Dw d := match d with
  | .func x => { fn := some ⟨x, rfl⟩ }
  | .cls x => { cl := some ⟨x, rfl⟩ }
  | .fields x => { fl := some ⟨x, rfl⟩ }
  | .seq x n => { sq := some ⟨(x, n), rfl⟩ }
  | _ => {}
noncomputable def fnData (d : Data) : Option FuncData := val (dw d).fn
noncomputable def clsData (d : Data) : Option ClassData := val (dw d).cl
noncomputable def fldData (d : Data) : Option (Array Value) := val (dw d).fl
noncomputable def seqData (d : Data) : Option (Array Value × Nat) := val (dw d).sq
noncomputable def strData (v : Value) : Option Str := val (P := fun x => ∃ t, v = .str x t) (match v with
  | .str q t => some ⟨q, t, rfl⟩
  | _ => none)
noncomputable def fnLook (h : Heap) (a : Addr) : Option FnLook := (h.get? a).bind fun o => (fnData o.data).bind fun fd => some (o.cls, fd.body, fd.scope, fd.params, fd.code, fd.qualname, fd.closure.length, fd.globals, fd.builtins, fd.defaults, fd.kwdefaults)
noncomputable abbrev ClsLook := Value × List Value × Nat × Bool × Bool × Nat × Option (Option Value)
noncomputable def clsLook (h : Heap) (a : Addr) : Option ClsLook := (h.get? a).bind fun o => (clsData o.data).bind fun cd => some (o.cls, cd.mro, cd.ns, cd.hasDict, cd.hasDel, o.slots.size, o.slots[4]?)
noncomputable def codeLook (h : Heap) (a : Addr) : Option Str := (h.get? a).bind fun o => (fldData o.data).bind fun vs => (vs[1]?).bind strData
noncomputable def seqLook (h : Heap) (a : Addr) : Option Nat := (h.get? a).bind fun o => (seqData o.data).bind fun q => some q.1.size
noncomputable def nameLook (h : Heap) (a : Addr) (xs : List Str) : Bool × List (Option Value) := (h.isNs a, xs.map (h.nsMap a))
noncomputable def xNames : List Str := ["__setattr__", "__getattribute__", "__getattr__", "code", "value", "errorcode", "level", "ret", "info", "is_noted", "line", "extra", "__init__"]

noncomputable abbrev Look := Option FnLook × Option FnLook × Option ClsLook × (Bool × List (Option Value)) × (Bool × List (Option Value)) × Option Str × Option Str × Option Nat × Option Nat
noncomputable def theLook (h : Heap) : Look := (fnLook h 30, fnLook h 45, clsLook h 33, nameLook h 32 xNames, nameLook h 3 ["Raised", "error"], codeLook h 29, codeLook h 44, seqLook h 23, seqLook h 38)

noncomputable def initDef : Option (Arguments × List Stmt × Scope) := PW.main.body.findSome? fun st => match st with
  | .ClassDef _ _ _ body .. => body.findSome? fun st => (match st with
    | .FunctionDef _ ps b _ _ _ sc .. => some (ps, b, sc)
    | _ => none)
  | _ => none
noncomputable def errDef : Option (Arguments × List Stmt × Scope) := PW.theDef "error"

noncomputable def theVal : Option Look := match initDef, errDef with
  | some (p1, b1, s1), some (p2, b2, s2) => some (some (.type "function", .stmts b1, s1, p1, .ref 29, "Raised.__init__", 0, 3, 0, .ref 23, .none), some (.type "function", .stmts b2, s2, p2, .ref 44, "error", 0, 3, 0, .ref 38, .none),
      some (.type "type", [.ref 33, .type "Exception", .type "BaseException", .type "object"], 32, true, false, 6, some (some (.builtin "Exception.__new__"))),
      (true, [none, none, none, none, none, none, none, none, none, none, none, none, some (.ref 30)]), (true, [some (.ref 33), some (.ref 45)]), some "Raised.__init__", some "error", some 3, some 1)
  | _, _ => none

noncomputable def TopSays (h : Heap) : Prop := ∃ h0, some (theLook h0) = theVal ∧ ∀ b o, h0.get? b = some o → h.get? b = some o
noncomputable def myHook : Hook := ⟨Option Look, fun s => some (theLook s.heap), fun _ => theVal, fun _ h => TopSays h, fun _ s e => ⟨s.heap, e, fun _ _ x => x⟩, fun _ _ _ ⟨h0, e, k⟩ k' => ⟨h0, e, fun b o z => k' b o (k b o z)⟩⟩
noncomputable def recL (i : Nat) : DefRec := match recAt i with
  | some d => d
  | none => ⟨"", ⟨[], [], none, [], [], none, []⟩, [], ⟨.function, [], false, false, []⟩, ⟨0, 0, 0, 0⟩⟩
noncomputable def recsT : List DefRec := defTable.map fun e => recL e.2
noncomputable def freeOk (q : Program) (lo : List Str) (x : Str) : Bool := !startupNames.contains x && !lo.contains x && !((recsOf q).map (·.name)).contains x && !((litsOf q).map (·.1)).contains x && !((clssOf q lo).map (·.name)).contains x && !(x == ("__name__" : Str))
noncomputable def blt10 : List Str := ["len", "str", "ord", "abs", "max", "min", "sum", "range", "list", "enumerate"]
noncomputable def bltNames : List Str := blt10 ++ [("Exception" : Str)]
/-- the text without what the view leaves out -/
noncomputable def viewQ : Program := { PW with main := { PW.main with body := [1, 3, 5, 6, 7, 8, 9, 10, 11, 12, 13, 15, 16, 17, 18, 19, 20, 22, 23, 24, 25, 26, 27, 28, 29, 30, 31, 32, 33, 34, 35, 37, 38, 39, 40, 41, 42, 43, 44, 45, 46, 47, 48, 49, 50, 51, 52].filterMap (PW.main.body[·]?) } }
noncomputable def looseN : List Str := ["Raised", "error"]
noncomputable abbrev rowO : OpenRow := PySem.Challenge.rw_oj0051_01.row
theorem left : LeftO rowO.prog viewQ looseN (fun s => xlAt viewQ [] s && recOk (RowW.records rowO.toRowW) s) (Hook.obs myHook) (Hook.val myHook) 3630 := by
  intro w
  kernel_rfl
end Mine

namespace Mine
open PySem PySem.W PyProof.Rows

/-! the pure reading of a fragment of the language: a term over plain data, a frame's names, and one shared cell of one int («the pen») -/

inductive LV where
  | val (d : PyData)
  | own (xs : List PyData)
  | cell (d : PyData)
  | pen
  | unb
  | glob

noncomputable abbrev Loc := List (Str × LV)

structure Exc where
  msg : Str
  code : PyData

inductive Res (α : Type) where
  | ok (a : α) (p : Option Int)
  | err (x : Exc) (p : Option Int)
  | stuck

namespace Res
noncomputable def bind {α β : Type} (x : Res α) (f : α → Option Int → Res β) : Res β := match x with
  | .ok a p => f a p
  | .err e p => .err e p
  | .stuck => .stuck
noncomputable def when {α : Type} (c : Bool) (r : Res α) : Res α := match c with
  | true => r
  | false => .stuck
noncomputable def ofOpt {α : Type} (p : Option Int) : Option α → Res α
  | some a => .ok a p
  | none => .stuck
/-- no raise comes out of it -/
noncomputable def calm {α : Type} : Res α → Res α
  | .ok a p => .ok a p
  | _ => .stuck
end Res

inductive Fl where
  | next | brk | cont
  | ret (d : PyData)

mutual
noncomputable def flat : PyData → Bool
  | .list _ => false
  | .dict _ => false
  | .tuple xs => flats xs
  | _ => true
noncomputable def flats : List PyData → Bool
  | [] => true
  | x :: r => flat x && flats r
end
noncomputable def scalar : PyData → Bool
  | .none => true
  | .bool _ => true
  | .int _ => true
  | .str _ => true
  | _ => false

noncomputable def look (ρ : Loc) (x : Str) : Option LV := ρ.lookup x
noncomputable def put : Loc → Str → LV → Loc
  | [], _, _ => []
  | (y, l) :: r, x, v => match x == y with
    | true => (y, v) :: r
    | false => (y, l) :: put r x v
noncomputable def noOwn (ρ : Loc) : Bool := ρ.all fun e => match e.2 with | .own _ => false | .pen => false | _ => true

/-! the operations on data -/

noncomputable def intOf : PyData → Option Int
  | .int i => some i
  | _ => none
noncomputable def strOf : PyData → Option Str
  | .str x => some x
  | _ => none
noncomputable def lstOf : PyData → Option (List PyData)
  | .list xs => some xs
  | _ => none
noncomputable def tupOf : PyData → Option (List PyData)
  | .tuple xs => some xs
  | _ => none
noncomputable def one {α : Type} : List α → Option α
  | [] => none
  | a :: r => match r with
    | [] => some a
    | _ :: _ => none
noncomputable def two {α : Type} : List α → Option (α × α)
  | [] => none
  | a :: r => (one r).map fun b => (a, b)
noncomputable def only {α : Type} (c : Bool) (o : Option α) : Option α := match c with
  | true => o
  | false => none
noncomputable def maxStr (x : Str) : Option PyData := only (decide (x.length ≤ sizeLine)) (some (.str x))
noncomputable def maxLst (xs : List PyData) : Option PyData := only (decide (xs.length ≤ sizeLine)) (some (.list xs))
noncomputable def intsP (f : Int → Int → Option PyData) (a b : PyData) : Option PyData := (intOf a).bind fun i => (intOf b).bind fun j => f i j
noncomputable def addP : PyData → PyData → Option PyData
  | .int i, b => (intOf b).bind fun j => some (.int (i + j))
  | .str x, b => (strOf b).bind fun y => maxStr (x ++ y)
  | .list x, b => (lstOf b).bind fun y => maxLst (x ++ y)
  | _, _ => none
noncomputable def mulInts (a b : Int) : Option PyData := only (!(decide (Builtin.Int.intBits a > shortFactorBits) && decide (Builtin.Int.intBits b > shortFactorBits) && Builtin.Int.intTooBig (((Builtin.Int.intBits a : Nat) : Int) + ((Builtin.Int.intBits b : Nat) : Int)))) (some (.int (a * b)))
noncomputable def mulP : PyData → PyData → Option PyData
  | .int i, b => (intOf b).bind fun j => mulInts i j
  | .str a, b => (intOf b).bind fun n => only (decide (n ≤ 1000) && decide (a.length ≤ 1000) && decide (-(2 ^ 63) ≤ n)) (some (.str (Txt.mul a n)))
  | .list x, b => (one x).bind fun x => (intOf b).bind fun n => only (decide (n < 1000) && decide (-(2 ^ 63) ≤ n)) (some (.list (List.replicate n.toNat x)))
  | _, _ => none
noncomputable def binP : Operator → PyData → PyData → Option PyData
  | .Add => addP
  | .Sub => intsP fun a b => some (.int (a - b))
  | .Mult => mulP
  | .FloorDiv => intsP fun a b => only (!(b == 0) && decide (b.natAbs < 1073741824)) (some (.int (a.fdiv b)))
  | .Mod => intsP fun a b => only (!(b == 0)) (some (.int (a.fmod b)))
  | .Pow => intsP fun a b => only (decide (0 ≤ b) && decide (b ≤ 1000000) && decide (a.natAbs < 2 ^ 64)) (some (.int (a ^ b.toNat)))
  | .LShift => intsP fun a b => only (decide (0 ≤ b) && decide (b ≤ 1000000) && decide (a.natAbs < 2 ^ 64)) (some (.int (a * 2 ^ b.toNat)))
  | .RShift => intsP fun a b => only (decide (0 ≤ b)) (some (.int (a.fdiv (2 ^ b.toNat))))
  | .BitAnd => intsP fun a b => some (.int (Builtin.bitAnd a b))
  | _ => fun _ _ => none

noncomputable def eqOk (a b : PyData) : Bool := a.canLay0 && b.canLay0 && decide (min a.depth b.depth ≤ 64)
noncomputable def isNone : PyData → Bool
  | .none => true
  | _ => false
noncomputable def ordP (f : Int → Int → Bool) (a b : PyData) : Option Bool := (intOf a).bind fun i => (intOf b).bind fun j => some (f i j)
noncomputable def eqG (a b : PyData) : Option Bool := only (eqOk a b) (some (a.eqv b))
noncomputable def eqS (a b : PyData) (x : Str) : Option Bool := match strOf b with
  | some y => some (decide (x = y))
  | none => eqG a b
noncomputable def eqI (a b : PyData) (i : Int) : Option Bool := match intOf b with
  | some j => some (i == j)
  | none => eqG a b
noncomputable def eqP (a b : PyData) : Option Bool := match intOf a with
  | some i => eqI a b i
  | none => match strOf a with
    | some x => eqS a b x
    | none => eqG a b
noncomputable def inT (a : PyData) (ys : List PyData) : Option Bool := only (PyData.canLayAll0 ys && a.canLay0 && decide (min (PyData.depthAll ys) a.depth ≤ 64)) (some (ys.any fun y => PyData.eqv y a))
noncomputable def inP (a : PyData) : PyData → Option Bool
  | .str y => (strOf a).bind fun x => some (Txt.contains y x)
  | .tuple ys => inT a ys
  | _ => none
noncomputable def isP (a b : PyData) : Option Bool := only (isNone b) (some (isNone a))
noncomputable def notO (o : Option Bool) : Option Bool := o.map not
noncomputable def cmpP : CmpOp → PyData → PyData → Option Bool
  | .Lt => ordP fun a b => decide (a < b)
  | .LtE => ordP fun a b => decide (a ≤ b)
  | .Gt => ordP fun a b => decide (a > b)
  | .GtE => ordP fun a b => decide (a ≥ b)
  | .Eq => eqP
  | .NotEq => fun a b => notO (eqP a b)
  | .Is => isP
  | .IsNot => fun a b => notO (isP a b)
  | .In => inP
  | .NotIn => fun a b => notO (inP a b)

noncomputable def truthP : PyData → Option Bool
  | .bool b => some b
  | _ => none

noncomputable def charsOf (x : Str) : List PyData := x.cps.toList.map fun c => .str ⟨#[c]⟩
noncomputable def intsUp (a : Int) (n : Nat) : List PyData := (List.range n).map fun (k : Nat) => PyData.int (a + (k : Int))

noncomputable def seqAt (xs : List PyData) (i : Int) : Option PyData := only (decide (-(2 ^ 63) ≤ i) && decide (i < 2 ^ 63)) ((seqIndex? i xs.length).bind fun k => xs[k]?)
noncomputable def subP : PyData → PyData → Option PyData
  | .str x, b => (intOf b).bind fun i => only (fitsSsize i && (Txt.charAt x i).isSome) (some (.str (Txt.item x i)))
  | .list xs, b => (intOf b).bind (seqAt xs)
  | .tuple xs, b => (intOf b).bind (seqAt xs)
  | _, _ => none
noncomputable def strPick (x : Str) (lo hi st : Option Int) : List Nat := Builtin.Str.strSliceIndices lo hi (st.getD 1) x.length
noncomputable def strSlice (x : Str) (lo hi st : Option Int) : Str := if (st.getD 1 == 1 && (strPick x lo hi st).length == x.length) = true then x else ⟨((strPick x lo hi st).filterMap (x.cps[·]?)).toArray⟩
noncomputable def lstSlice (xs : List PyData) (lo hi st : Option Int) : List PyData :=
  (sliceRange (sliceBounds lo hi st xs.length).1 (sliceBounds lo hi st xs.length).2.1 (sliceBounds lo hi st xs.length).2.2).filterMap (xs[·]?)
noncomputable def sliceP (d : PyData) (lo hi st : Option Int) : Option PyData := match d with
  | .str x => only (!(st.getD 1 == 0) && decide (x.length ≤ sizeLine)) (some (.str (strSlice x lo hi st)))
  | .list xs => only (decide (st ≠ some 0) && decide (xs.length ≤ sizeLine)) (some (.list (lstSlice xs lo hi st)))
  | _ => none

set_option genInjectivity false in
set_option genSizeOf false in
/-- a term, looked at once -/
structure Vw (e : Expr) where
  set : Bool := false
  star : Bool := false
  call : Bool := false
  nm : Option {x : Str × Pos // e = .Name x.1 x.2} := none
  ls : Option {x : List Expr × Pos // e = .List x.1 x.2} := none
  tp : Option {x : List Expr × Nat × Pos // e = .Tuple x.1 x.2.1 x.2.2} := none
  sl : Option {x : Option Expr × Option Expr × Option Expr × Pos // e = .Slice x.1 x.2.1 x.2.2.1 x.2.2.2} := none
  di : Option {x : List (Option Expr) × List Expr × Pos // e = .Dict x.1 x.2.1 x.2.2} := none
  at_ : Option {x : Expr × Str × Pos // e = .Attribute x.1 x.2.1 x.2.2} := none
  cn : Option {x : Const × Nat × Pos // e = .Constant x.1 x.2.1 x.2.2} := none
  cm : Option {x : Expr × List Comprehension × Scope × Pos // e = .ListComp x.1 x.2.1 x.2.2.1 x.2.2.2} := none
  ca : Option {x : Expr × List Expr × Pos // e = .Call x.1 x.2.1 [] x.2.2} := none
noncomputable def vw (e : Expr) : Vw e := match e with
  | .Name x q => { nm := some ⟨(x, q), rfl⟩ }
  | .List es q => { ls := some ⟨(es, q), rfl⟩ }
  | .Tuple es k q => { tp := some ⟨(es, k, q), rfl⟩ }
  | .Slice a b c q => { sl := some ⟨(a, b, c, q), rfl⟩ }
  | .Dict a b q => { di := some ⟨(a, b, q), rfl⟩ }
  | .Attribute o m q => { at_ := some ⟨(o, m, q), rfl⟩ }
  | .Constant c k q => { cn := some ⟨(c, k, q), rfl⟩ }
  | .ListComp a b c q => { cm := some ⟨(a, b, c, q), rfl⟩ }
  | .Call f args kws q => { call := true, ca := match kws with
    | [] => some ⟨(f, args, q), rfl⟩
    | _ :: _ => none }
  | .Set _ _ _ => { set := true }
  | .Starred _ _ => { star := true }
  | _ => {}
noncomputable def notSet (e : Expr) : Bool := !(vw e).set
noncomputable def notStar (e : Expr) : Bool := !(vw e).star
noncomputable def asName (e : Expr) : Option (Str × Pos) := val (vw e).nm
noncomputable def asLst (e : Expr) : Option (List Expr × Pos) := val (vw e).ls
noncomputable def asTup (e : Expr) : Option (List Expr × Nat × Pos) := val (vw e).tp
noncomputable def asSlice (e : Expr) : Option (Option Expr × Option Expr × Option Expr × Pos) := val (vw e).sl
noncomputable def asDict (e : Expr) : Option (List (Option Expr) × List Expr × Pos) := val (vw e).di
noncomputable def asAttr (e : Expr) : Option (Expr × Str × Pos) := val (vw e).at_
noncomputable def asConst (e : Expr) : Option (Const × Nat × Pos) := val (vw e).cn
noncomputable def asComp (e : Expr) : Option (Expr × List Comprehension × Scope × Pos) := val (vw e).cm
/-- a call without keywords -/
noncomputable def asCall (e : Expr) : Option (Expr × List Expr × Pos) := val (vw e).ca
/-- such a call of a name -/
noncomputable def asCallN (e : Expr) : Option (Str × Pos × List Expr × Pos) := (asCall e).bind fun c => (asName c.1).bind fun f => some (f.1, f.2, c.2.1, c.2.2)
noncomputable def intC (c : Const) : Option Int := val (P := fun i => c = .int i) (match c with
  | .int i => some ⟨i, rfl⟩
  | _ => none)
noncomputable def strC (c : Const) : Option Str := val (P := fun x => c = .str x) (match c with
  | .str x => some ⟨x, rfl⟩
  | _ => none)
theorem intC_inv {c : Const} {i : Int} (h : intC c = some i) : c = .int i := val_inv (P := fun i => c = .int i) h
theorem strC_inv {c : Const} {x : Str} (h : strC c = some x) : c = .str x := val_inv (P := fun x => c = .str x) h
noncomputable def zeroE (e : Expr) : Bool := (asConst e).any fun c => (intC c.1).any fun i => i == 0
noncomputable def noSuper (e : Expr) : Bool := !(vw e).call
noncomputable def isPenL : Option LV → Bool
  | some l => (match l with
    | .pen => true
    | _ => false)
  | none => false
noncomputable def isGlobL : Option LV → Bool
  | some l => (match l with
    | .glob => true
    | _ => false)
  | none => false
noncomputable def isValL : Option LV → Bool
  | some l => (match l with
    | .val _ => true
    | _ => false)
  | none => false
noncomputable def ownOf : Option LV → Option (List PyData)
  | some l => (match l with
    | .own xs => some xs
    | _ => none)
  | none => none
noncomputable def onSome {α β : Type} (o : Option α) (f : α → Res β) : Res β := match o with
  | some a => f a
  | none => .stuck
noncomputable def onBool {α : Type} (t f : Option Int → Res α) (c : PyData) (p : Option Int) : Res α := match c with
  | .bool b => (match b with
    | true => t p
    | false => f p)
  | _ => .stuck

noncomputable def partP (ev : Option Int → Expr → Res PyData) : Option Expr → Option Int → Res (Option Int)
  | none, p => .ok none p
  | some e, p => (ev p e).bind fun d p => (Res.ofOpt p (intOf d)).bind fun i p => .ok (some i) p

noncomputable def boolR (o : Option Bool) (p : Option Int) : Res PyData := (Res.ofOpt p o).bind fun b p => .ok (.bool b) p
noncomputable def truthR (d : PyData) (p : Option Int) : Res PyData := boolR (truthP d) p
noncomputable def cmpR (op : CmpOp) (a b : PyData) (p : Option Int) : Res PyData := boolR (cmpP op a b) p
noncomputable def evalsP (ev : Option Int → Expr → Res PyData) : List Expr → Option Int → Res (List PyData)
  | [], p => .ok [] p
  | e :: r, p => Res.when (notStar e) ((ev p e).bind fun d p => (evalsP ev r p).bind fun ds p => .ok (d :: ds) p)
/-- and, or in a test -/
noncomputable def boolP (ev : Option Int → Expr → Res PyData) (op : BoolOp) : List Expr → Option Int → Res PyData
  | [], p => .ok (.bool (op == .And)) p
  | e :: r, p => (ev p e).bind (onBool (fun p => match op with
    | .And => boolP ev op r p
    | .Or => .ok (.bool true) p) fun p => match op with
    | .And => .ok (.bool false) p
    | .Or => boolP ev op r p)

noncomputable def intsOf : List PyData → Option (List Int)
  | [] => some []
  | x :: r => (intOf x).bind fun i => (intsOf r).bind fun l => some (i :: l)
noncomputable def lenP : PyData → Option PyData
  | .str x => only (decide (x.length ≤ sizeLine)) (some (.int x.length))
  | .list xs => only (decide (xs.length ≤ sizeLine)) (some (.int xs.length))
  | _ => none
noncomputable def strP (a : PyData) : Option PyData := (intOf a).bind fun i => only (decide (i.natAbs.log2 < 1920)) (some (.str (Str.ofString (toString i))))
noncomputable def ordC (a : PyData) : Option PyData := (strOf a).bind fun x => only (decide (x.length = 1)) (some (.int ((x.cps.getD 0 0 : Nat) : Int)))
noncomputable def absP (a : PyData) : Option PyData := (intOf a).bind fun i => some (.int (if i < 0 then -i else i))
noncomputable def sumP (a : PyData) : Option PyData := (lstOf a).bind fun xs => (intsOf xs).bind fun ns => only (decide (ns.length ≤ 1000)) (some (.int ns.sum))
noncomputable def maxP : PyData → PyData → Option PyData := intsP fun i j => some (.int (if j > i then j else i))
noncomputable def minP : PyData → PyData → Option PyData := intsP fun i j => some (.int (if j < i then j else i))
noncomputable def blt1 (f : Str) (a : PyData) : Option PyData :=
  match f == ("len" : Str) with
  | true => lenP a
  | false =>
  match f == ("str" : Str) with
  | true => strP a
  | false =>
  match f == ("ord" : Str) with
  | true => ordC a
  | false =>
  match f == ("abs" : Str) with
  | true => absP a
  | false => only (f == ("sum" : Str)) (sumP a)
noncomputable def blt2 (f : Str) (a b : PyData) : Option PyData :=
  match f == ("max" : Str) with
  | true => maxP a b
  | false => only (f == ("min" : Str)) (minP a b)
noncomputable def builtinP (f : Str) (args : List PyData) : Option PyData := match one args with
  | some a => blt1 f a
  | none => (two args).bind fun ab => blt2 f ab.1 ab.2

noncomputable def strsOf : List PyData → Option (List Str)
  | [] => some []
  | x :: r => (strOf x).bind fun i => (strsOf r).bind fun l => some (i :: l)
noncomputable def arg1 (args : List PyData) (f : PyData → Option PyData) : Option PyData := (one args).bind f
noncomputable def joinP (x : Str) (a : PyData) : Option PyData := (lstOf a).bind fun ys => (strsOf ys).bind fun zs => only (JoinOk x zs) (some (.str (Txt.join x zs)))
noncomputable def methS (x : Str) (m : Str) (args : List PyData) : Option PyData :=
  match m == ("startswith" : Str) with
  | true => arg1 args fun a => (strOf a).bind fun y => some (.bool (Txt.startswith x y))
  | false =>
  match m == ("index" : Str) with
  | true => arg1 args fun a => (strOf a).bind fun y => (Builtin.Str.occurrences x y 0 x.length 1).head?.bind fun i => some (.int i)
  | false =>
  match m == ("lower" : Str) with
  | true => only args.isEmpty (only (!Builtin.Str.tooLong (Txt.lower x).length) (some (.str (Txt.lower x))))
  | false =>
  match m == ("upper" : Str) with
  | true => only args.isEmpty (only (!Builtin.Str.tooLong (Txt.upper x).length) (some (.str (Txt.upper x))))
  | false =>
  match m == ("isupper" : Str) with
  | true => only args.isEmpty (some (.bool (Txt.isupper x)))
  | false => only (m == ("join" : Str)) (arg1 args (joinP x))
noncomputable def methodP (o : PyData) (m : Str) (args : List PyData) : Option PyData := (strOf o).bind fun x => methS x m args

noncomputable abbrev CallP := Str → List LV → Option Int → Res PyData
noncomputable def quietC : CallP := fun _ _ _ => .stuck

/-- the arguments of a call: the pen goes by its name alone, or is made by a display of one int -/
noncomputable def penNm (ρ : Loc) (e : Expr) : Bool := (asName e).any fun x => isPenL (look ρ x.1)
noncomputable def argsP (ev : Option Int → Expr → Res PyData) (ρ : Loc) : List Expr → Option Int → Res (List LV)
  | [], p => .ok [] p
  | e :: r, p => Res.when (notStar e) (match penNm ρ e with
    | true => (argsP ev ρ r p).bind fun ds p => .ok (.pen :: ds) p
    | false => (ev p e).bind fun d p => (argsP ev ρ r p).bind fun ds p => .ok (.val d :: ds) p)

noncomputable def itemsOf : PyData → Option (List PyData)
  | .list xs => some xs
  | .str x => some (charsOf x)
  | _ => none
noncomputable def rng1 (a : PyData) : Option (List PyData) := (intOf a).bind fun n => only (decide (n ≤ 100000) && decide (-(2 ^ 63) ≤ n)) (some (intsUp 0 n.toNat))
noncomputable def rng2 (a b : PyData) : Option (List PyData) := (intOf a).bind fun a => (intOf b).bind fun b => only (decide (0 ≤ a) && decide (a ≤ 100000) && decide (b ≤ 100000) && decide (-(2 ^ 63) ≤ b)) (some (intsUp a (b - a).toNat))
noncomputable def rangeP (args : List PyData) : Option (List PyData) := match one args with
  | some a => rng1 a
  | none => (two args).bind fun ab => rng2 ab.1 ab.2

/-- one item of a comprehension -/
noncomputable def compItems (f : PyData → Res (Option PyData)) : List PyData → Res (List PyData)
  | [] => .ok [] none
  | x :: r => (f x).bind fun y _ => (compItems f r).bind fun ys _ => .ok (y.toList ++ ys) none

noncomputable def noPen (ρ : Loc) : Bool := ρ.all fun e => !isPenL (some e.2)
noncomputable def isSome {α : Type} : Option α → Bool
  | some _ => true
  | none => false

/-- a written dict of strs to ints, read at a str -/
noncomputable def constKey : Option Expr → Option Str
  | none => none
  | some e => (asConst e).bind fun c => strC c.1
noncomputable def constInt (e : Expr) : Option Int := (asConst e).bind fun c => intC c.1
noncomputable def constPairs : List (Option Expr) → List Expr → Option (List (Str × Int))
  | [], vs => (match vs with
    | [] => some []
    | _ :: _ => none)
  | k :: ks, vs => (match vs with
    | [] => none
    | v :: vs => (constKey k).bind fun x => (constInt v).bind fun i => (constPairs ks vs).bind fun r => some ((x, i) :: r))
noncomputable def distinct : List Str → Bool
  | [] => true
  | x :: r => !r.contains x && distinct r
noncomputable def dictP (ks : List (Option Expr)) (vs : List Expr) (x : Str) : Option PyData := (constPairs ks vs).bind fun ps => only (distinct (ps.map (·.1)) && decide (ps.length ≤ 15) && !ps.isEmpty) ((ps.find? fun q => decide (q.1 = x)).map fun q => .int q.2)
noncomputable def quietLV : LV → LV
  | .val d => .val d
  | .cell d => .cell d
  | .glob => .glob
  | _ => .unb
noncomputable def quietLoc (ρ : Loc) : Loc := ρ.map fun e => (e.1, quietLV e.2)

noncomputable def penRes : Option Int → Res PyData
  | some k => .ok (.int k) (some k)
  | none => .stuck
noncomputable def compLoc (scope : Scope) (x : Str) (d : PyData) (ρ : Loc) : Loc := scope.names.filterMap fun y => match y.2 with
  | .local => (match y.1 == x with
    | true => some (y.1, .val d)
    | false => none)
  | .free => (match look ρ y.1 with
    | some (.cell d) => some (y.1, .cell d)
    | _ => none)
  | .globalImplicit => some (y.1, .glob)
  | _ => none
/-- the comprehension's scope is of the plain form -/
noncomputable def compOk (scope : Scope) (x : Str) (ρ : Loc) : Bool := scope.kind == .function && (scope.names.lookup x == some .local) && scope.names.all fun y => !(y.1 == ("__debug__" : Str)) && match y.2 with
  | .local => scope.names.lookup y.1 == some .local
  | .free => scope.names.lookup y.1 == some .free && (match look ρ y.1 with | some (.cell _) => true | _ => false)
  | .globalImplicit => scope.names.lookup y.1 == some .globalImplicit
  | _ => false

noncomputable def compBody (ev : Bool → Loc → Option Int → Expr → Res PyData) (elt : Expr) (ifs : List Expr) (ρ : Loc) : Res (Option PyData) :=
  (boolP (ev true ρ) .And ifs none).bind (onBool (fun _ => (ev false ρ none elt).bind fun y _ => Res.when (scalar y) (.ok (some y) none)) fun _ => .ok none none)
noncomputable def bodyAt (ev : Bool → Loc → Option Int → Expr → Res PyData) (ρ : Loc) (elt : Expr) (scope : Scope) (x : Str) (ifs : List Expr) (d : PyData) : Res (Option PyData) := compBody ev elt ifs (compLoc scope x d ρ)

/-- range(..), else a term's items -/
noncomputable def rngCall (e : Expr) : Option (Str × Pos × List Expr × Pos) := (asCallN e).bind fun c => only (c.1 == ("range" : Str)) (some c)
noncomputable def rngR (ev : Option Int → Expr → Res PyData) (ρ : Loc) (p : Option Int) (f : Str) (args : List Expr) : Res (List PyData) := Res.when (isGlobL (look ρ f)) ((evalsP ev args p).calm.bind fun ds p => Res.ofOpt p (rangeP ds))
noncomputable def iterP (ev : Option Int → Expr → Res PyData) (ρ : Loc) (p : Option Int) (e : Expr) : Res (List PyData) := match rngCall e with
  | some c => rngR ev ρ p c.1 c.2.2.1
  | none => (ev p e).bind fun d p => Res.ofOpt p (itemsOf d)
noncomputable def asGen (gens : List Comprehension) : Option (Str × Pos × Expr × List Expr) := (one gens).bind fun g => (asName g.target).bind fun x => only (g.is_async == 0) (some (x.1, x.2, g.iter, g.ifs))
noncomputable def compR (ev : Bool → Loc → Option Int → Expr → Res PyData) (ρ : Loc) (elt : Expr) (scope : Scope) (x : Str) (ifs : List Expr) (items : List PyData) (p : Option Int) : Res PyData := Res.when (items.all scalar && decide (items.length ≤ sizeLine))
    ((compItems (bodyAt ev ρ elt scope x ifs) items).calm.bind fun ys _ => .ok (.list ys) p)
noncomputable def compP (ev : Bool → Loc → Option Int → Expr → Res PyData) (ev0 : Option Int → Expr → Res PyData) (ρ : Loc) (p : Option Int) (elt : Expr) (gens : List Comprehension) (scope : Scope) : Res PyData :=
  onSome (asGen gens) fun g => Res.when (compOk scope g.1 ρ) ((iterP ev0 ρ p g.2.2.1).bind (compR ev ρ elt scope g.1 g.2.2.2))

/-- the arguments r, [e] -/
noncomputable def penArgs (args : List Expr) : Option (Str × Pos × Expr × Pos) := (two args).bind fun ab => (asName ab.1).bind fun r => (asLst ab.2).bind fun l => (one l.1).bind fun e => some (r.1, r.2, e, l.2)
noncomputable def isBlt (f : Str) : Bool := (["len", "str", "ord", "abs", "max", "min", "sum"] : List Str).contains f
noncomputable def constP (p : Option Int) : Const → Res PyData
  | .none => .ok .none p
  | .bool b => .ok (.bool b) p
  | .int i => .ok (.int i) p
  | .str x => .ok (.str x) p
  | _ => .stuck
/-- the value of a name -/
noncomputable def lvOf : Option LV → Option PyData
  | some l => (match l with
    | .val d => some d
    | .own xs => some (.list xs)
    | .cell d => some d
    | _ => none)
  | none => none
noncomputable def lvP (p : Option Int) (o : Option LV) : Res PyData := Res.ofOpt p (lvOf o)
noncomputable def negR (d : PyData) (p : Option Int) : Res PyData := (Res.ofOpt p (intOf d)).bind fun i p => .ok (.int (-i)) p
noncomputable def notR (d : PyData) (p : Option Int) : Res PyData := (Res.ofOpt p (truthP d)).bind fun b p => .ok (.bool (!b)) p
noncomputable def fitR (mk : List PyData → PyData) (ds : List PyData) (p : Option Int) : Res PyData := Res.when (decide (ds.length ≤ sizeLine)) (.ok (mk ds) p)
noncomputable def penGo (C : CallP) (f : Str) (d k : PyData) (p : Option Int) : Res PyData := (Res.ofOpt p (intOf k)).bind fun k p => match p with
    | none => (C f [.val d, .pen] (some k)).calm.bind fun v _ => Res.when (flat v) (.ok v none)
    | some _ => .stuck
noncomputable def cmp1P (ev : Option Int → Expr → Res PyData) (l : Expr) (op : CmpOp) (r : Expr) (p : Option Int) : Res PyData := Res.when (notSet r) ((ev p l).bind fun a p => (ev p r).bind fun b p => cmpR op a b p)
noncomputable def cmp2P (ev : Option Int → Expr → Res PyData) (l : Expr) (o1 : CmpOp) (m : Expr) (o2 : CmpOp) (r : Expr) (p : Option Int) : Res PyData :=
  Res.when (notSet r) ((ev p l).bind fun a p => (ev p m).bind fun b p => (cmpR o1 a b p).bind (onBool (fun p => (ev p r).bind fun d p => cmpR o2 b d p) fun p => .ok (.bool false) p))
/-- a call in a term -/
noncomputable def nameE (ev : Option Int → Expr → Res PyData) (C : CallP) (ρ : Loc) (p : Option Int) (args : List Expr) (f : Str) : Res PyData := Res.when (isGlobL (look ρ f)) (match penArgs args with
    | some a => (match p with
      | none => (ev none (.Name a.1 a.2.1)).calm.bind fun d p => (ev p a.2.2.1).calm.bind fun k p => penGo C f d k p
      | some _ => .stuck)
    | none => (match isBlt f with
      | true => (evalsP ev args p).calm.bind fun ds p => Res.ofOpt p (builtinP f ds)
      | false => (argsP ev ρ args p).calm.bind fun lvs p => C f lvs p))
noncomputable def methE (ev : Option Int → Expr → Res PyData) (p : Option Int) (o : Expr) (m : Str) (apos pos : Pos) : List Expr → Res PyData
  | [] => Res.when (apos.endLine == pos.line && noSuper o) ((ev p o).bind fun d p => Res.ofOpt p (methodP d m []))
  | e :: r => match r with
    | [] => Res.when (apos.endLine == pos.line && noSuper o && notStar e) ((ev p o).bind fun d p => (ev p e).calm.bind fun k p => Res.ofOpt p (methodP d m [k]))
    | _ :: _ => .stuck
noncomputable def callE (ev : Option Int → Expr → Res PyData) (C : CallP) (ρ : Loc) (p : Option Int) (args : List Expr) (pos : Pos) : Expr → Res PyData
  | .Name f _ => nameE ev C ρ p args f
  | .Attribute o m apos => methE ev p o m apos pos args
  | _ => .stuck
/-- a subscript in a term -/
noncomputable def subE (ev ev' : Option Int → Expr → Res PyData) (ρ : Loc) (p : Option Int) (v i : Expr) : Res PyData := match asSlice i with
  | some s => (ev p v).bind fun d p => (partP ev s.1 p).bind fun a p => (partP ev s.2.1 p).bind fun b p => (partP ev s.2.2.1 p).bind fun c p => Res.ofOpt p (sliceP d a b c)
  | none => match asDict v with
    | some kv => (ev' none i).calm.bind fun k _ => (Res.ofOpt p (strOf k)).bind fun x p => Res.ofOpt p (dictP kv.1 kv.2.1 x)
    | none => match penNm ρ v with
      | true => Res.when (zeroE i) (penRes p)
      | false => (ev p v).bind fun d p => (ev p i).bind fun k p => Res.ofOpt p (subP d k)

/-- the value of a term; with true, of a test -/
noncomputable def evP : Nat → CallP → Bool → Loc → Option Int → Expr → Res PyData
  | 0, _, _, _, _, _ => .stuck
  | n + 1, C, true, ρ, p, e => match e with
    | .UnaryOp op x _ => (match op with
      | .Not => (evP n C true ρ p x).bind notR
      | _ => .stuck)
    | .BoolOp op es _ => boolP (evP n C true ρ) op es p
    | .Compare l ops rs _ => (match one ops with
      | some op => onSome (one rs) fun r => cmp1P (evP n C false ρ) l op r p
      | none => onSome (two ops) fun o => onSome (two rs) fun r => cmp2P (evP n C false ρ) l o.1 r.1 o.2 r.2 p)
    | .Name x pos => (evP n C false ρ p (.Name x pos)).bind fun v p => truthR v p
    | .Call f args kws pos => (evP n C false ρ p (.Call f args kws pos)).bind fun v p => truthR v p
    | _ => .stuck
  | n + 1, C, false, ρ, p, e => match e with
    | .Constant c _ _ => constP p c
    | .Name x _ => lvP p (look ρ x)
    | .BinOp l op r _ => (evP n C false ρ p l).bind fun a p => (evP n C false ρ p r).bind fun b p => Res.ofOpt p (binP op a b)
    | .UnaryOp op x _ => (match op with
      | .USub => (evP n C false ρ p x).bind negR
      | _ => .stuck)
    | .IfExp t b o _ => (evP n C true ρ p t).bind (onBool (fun p => evP n C false ρ p b) fun p => evP n C false ρ p o)
    | .Compare l ops rs _ => onSome (one ops) fun op => onSome (one rs) fun r => cmp1P (evP n C false ρ) l op r p
    | .BoolOp op es _ => (match op with
      | .And => onSome (two es) fun xy => (evP n C false ρ p xy.1).bind (onBool (fun p => evP n C false ρ p xy.2) fun p => .ok (.bool false) p)
      | .Or => .stuck)
    | .Tuple es _ _ => (evalsP (evP n C false ρ) es p).bind (fitR .tuple)
    | .List es _ => (evalsP (evP n C false ρ) es p).bind (fitR .list)
    | .Call f args kws pos => (match kws with
      | [] => callE (evP n C false ρ) C ρ p args pos f
      | _ :: _ => .stuck)
    | .Subscript v i _ => subE (evP n C false ρ) (evP n quietC false (quietLoc ρ)) ρ p v i
    | .ListComp elt gens scope _ => compP (evP n quietC) (evP n C false ρ) ρ p elt gens scope
    | _ => .stuck

/-! statements -/

/-- a name takes a value: a list that may be another's may not stand beside the frame's own lists -/
noncomputable def storable (ρ : Loc) (d : PyData) : Bool := flat d || noOwn ρ
noncomputable def isLocalL : Option LV → Bool
  | some l => (match l with
    | .val _ => true
    | .own _ => true
    | .unb => true
    | _ => false)
  | none => false
noncomputable def isLocal (ρ : Loc) (x : Str) : Bool := isLocalL (look ρ x)
noncomputable def isGlob (ρ : Loc) (x : Str) : Bool := isGlobL (look ρ x)
noncomputable def setVal (ρ : Loc) (x : Str) (d : PyData) : Option Loc := only (storable ρ d && isLocal ρ x) (some (put ρ x (.val d)))
noncomputable def setVals : Loc → List Expr → List PyData → Option Loc
  | ρ, [], ds => (match ds with
    | [] => some ρ
    | _ :: _ => none)
  | ρ, t :: ts, ds => (match ds with
    | [] => none
    | d :: ds => (asName t).bind fun x => (setVal ρ x.1 d).bind fun ρ => setVals ρ ts ds)
noncomputable def bindP (t : Expr) (d : PyData) (ρ : Loc) : Option Loc := match t with
  | .Name x _ => setVal ρ x d
  | .Tuple ts _ _ => (tupOf d).bind fun ds => setVals ρ ts ds
  | _ => none

/-- the parts of a tuple display that is taken apart at once: a list display becomes the name's own -/
noncomputable def partLV (l : Bool) (d : PyData) : Option LV := match l with
  | true => (lstOf d).bind fun xs => only (flats xs) (some (.own xs))
  | false => only (flat d) (some (.val d))
noncomputable def partsP (ev : Option Int → Expr → Res PyData) : List Expr → Option Int → Res (List LV)
  | [], p => .ok [] p
  | e :: r, p => Res.when (notStar e) ((ev p e).bind fun d p => (Res.ofOpt p (partLV (asLst e).isSome d)).bind fun l p => (partsP ev r p).bind fun ls p => .ok (l :: ls) p)
noncomputable def putAll : Loc → List Expr → List LV → Option Loc
  | ρ, [], ls => (match ls with
    | [] => some ρ
    | _ :: _ => none)
  | ρ, t :: ts, ls => (match ls with
    | [] => none
    | l :: ls => (asName t).bind fun x => only (isLocal ρ x.1) (putAll (put ρ x.1 l) ts ls))
noncomputable def allLocal (ρ : Loc) (ts : List Expr) : Bool := ts.all fun e => (asName e).any fun x => isLocal ρ x.1
noncomputable def namesOn (line : Nat) (ts : List Expr) : List Str := ts.filterMap fun e => match e with
  | .Name x pos => if pos.line == line then some x else none
  | _ => none
/-- a tuple taken apart at once, in the order that two or three names on one line take -/
noncomputable def swapOk (ts vs : List Expr) : Bool := (ts.length == 2 || ts.length == 3) && vs.length == ts.length && vs.all notStar && (namesOn ((ts.head?.map (·.pos.line)).getD 0) ts).length == ts.length &&
  (namesOn ((ts.head?.map (·.pos.line)).getD 0) ts).eraseDups.length == (namesOn ((ts.head?.map (·.pos.line)).getD 0) ts).length && distinct (namesOn ((ts.head?.map (·.pos.line)).getD 0) ts) && !vs.all (foldedForSure 8) && !vs.all (constantsAlone 8)

noncomputable def whileP (t : Loc → Option Int → Res PyData) (b : Loc → Option Int → Res (Fl × Loc)) : Nat → Loc → Option Int → Res (Fl × Loc)
  | 0, _, _ => .stuck
  | k + 1, ρ, p => (t ρ p).bind (onBool (fun p => (b ρ p).bind fun r p => match r.1 with
      | .next => whileP t b k r.2 p
      | .cont => whileP t b k r.2 p
      | .brk => .ok (.next, r.2) p
      | .ret v => .ok (.ret v, r.2) p) fun p => .ok (.next, ρ) p)
noncomputable def forP (b : PyData → Loc → Option Int → Res (Fl × Loc)) : List PyData → Loc → Option Int → Res (Fl × Loc)
  | [], ρ, p => .ok (.next, ρ) p
  | x :: r, ρ, p => (b x ρ p).bind fun q p => match q.1 with
    | .next => forP b r q.2 p
    | .cont => forP b r q.2 p
    | .brk => .ok (.next, q.2) p
    | .ret v => .ok (.ret v, q.2) p

noncomputable def sliceSet (xs ys : List PyData) (lo hi : Int) : Option (List PyData) := only (decide (0 ≤ lo) && decide (lo ≤ hi) && decide (hi ≤ xs.length) && decide (xs.length ≤ 1000) && decide (ys.length ≤ 1000)) (some (xs.take lo.toNat ++ ys ++ xs.drop hi.toNat))

noncomputable def exsP (ex : Loc → Option Int → Stmt → Res (Fl × Loc)) : List Stmt → Loc → Option Int → Res (Fl × Loc)
  | [], ρ, p => .ok (.next, ρ) p
  | s :: r, ρ, p => (ex ρ p s).bind fun q p => match q.1 with
    | .next => exsP ex r q.2 p
    | f => .ok (f, q.2) p

noncomputable def whileFuel : Nat := 1000

/-- a list that is walked may not be one of the frame's own -/
noncomputable def walkOk (ρ : Loc) (d : PyData) (e : Expr) : Bool := (asName e).any (fun x => isValL (look ρ x.1)) || (flat d || noOwn ρ)
noncomputable def isTup (e : Expr) : Bool := (asTup e).isSome
noncomputable def itemsR (ev : Option Int → Expr → Res PyData) (ρ : Loc) (p : Option Int) (e : Expr) : Res (List PyData) := (ev p e).bind fun d p => Res.when (walkOk ρ d e) (Res.ofOpt p (itemsOf d))
noncomputable def enumR (tup : Bool) (ev : Option Int → Expr → Res PyData) (ρ : Loc) (p : Option Int) (f : Str) (args : List Expr) : Res (List PyData) := Res.when (isGlobL (look ρ f)) (onSome (one args) fun e => (ev p e).calm.bind fun d p => (Res.ofOpt p (lstOf d)).bind fun xs p =>
  Res.when (decide (xs.length ≤ 1000) && walkOk ρ d e && tup && notStar e) (.ok (xs.zipIdx.map fun (q : PyData × Nat) => PyData.tuple [.int (q.2 : Int), q.1]) p))
noncomputable def forItems (tup : Bool) (ev : Option Int → Expr → Res PyData) (ρ : Loc) (p : Option Int) (e : Expr) : Res (List PyData) := match asCallN e with
  | none => itemsR ev ρ p e
  | some c => match c.1 == ("range" : Str) with
    | true => rngR ev ρ p c.1 c.2.2.1
    | false => match c.1 == ("enumerate" : Str) with
      | true => enumR tup ev ρ p c.1 c.2.2.1
      | false => itemsR ev ρ p e

noncomputable def goOn (ρ : Loc) (p : Option Int) : Res (Fl × Loc) := .ok (.next, ρ) p
noncomputable def setR (ρ : Loc) (x : Str) (d : PyData) (p : Option Int) : Res (Fl × Loc) := (Res.ofOpt p (setVal ρ x d)).bind goOn
noncomputable def appendX (ev : Option Int → Expr → Res PyData) (ρ : Loc) (p : Option Int) (x m : Str) (apos : Pos) (e : Expr) (cp : Pos) : Res (Fl × Loc) :=
  Res.when (m == ("append" : Str) && apos.endLine == cp.line && notStar e) ((Res.ofOpt p (ownOf (look ρ x))).bind fun xs p => (ev p e).bind fun d p => Res.when (flat d && decide (xs.length ≤ 1000)) (goOn (put ρ x (.own (xs ++ [d]))) p))
noncomputable def listX (ev : Option Int → Expr → Res PyData) (ρ : Loc) (p : Option Int) (x : Str) (e : Expr) : Res (Fl × Loc) :=
  (ev p e).bind fun d p => (Res.ofOpt p (itemsOf d)).bind fun xs p => Res.when (flats xs && isLocal ρ x && decide (xs.length ≤ sizeLine)) (goOn (put ρ x (.own xs)) p)
noncomputable def compX (ev : Option Int → Expr → Res PyData) (ρ : Loc) (p : Option Int) (x : Str) (xp : Pos) (elt : Expr) (gens : List Comprehension) (scope : Scope) (pos : Pos) : Res (Fl × Loc) :=
  Res.when (xp.line == pos.line && !(scope.names.any fun y => y.1 == x && (y.2 == .local || y.2 == .cell)) && isLocal ρ x) ((ev p (.ListComp elt gens scope pos)).bind (setR ρ x))
noncomputable def swapX (ev : Option Int → Expr → Res PyData) (ρ : Loc) (p : Option Int) (ts vs : List Expr) : Res (Fl × Loc) :=
  Res.when (swapOk ts vs && allLocal ρ ts) ((partsP ev vs p).bind fun ls p => (Res.ofOpt p (putAll ρ ts.reverse ls.reverse)).bind goOn)
noncomputable def tupX (ev : Option Int → Expr → Res PyData) (ρ : Loc) (p : Option Int) (t e : Expr) : Res (Fl × Loc) := (ev p e).bind fun d p => (Res.ofOpt p (bindP t d ρ)).bind goOn
noncomputable def penX (ev : Option Int → Expr → Res PyData) (ρ : Loc) (p : Option Int) (x : Str) (e : Expr) : Res (Fl × Loc) :=
  Res.when (isPenL (look ρ x)) ((ev p e).bind fun d p => (Res.ofOpt p (intOf d)).bind fun i p => match p with
    | some _ => goOn ρ (some i)
    | none => .stuck)
noncomputable def cutOf (xs : List PyData) (d a b : PyData) : Option (List PyData) := (lstOf d).bind fun ys => (intOf a).bind fun i => (intOf b).bind fun j => only (flats ys) (sliceSet xs ys i j)
noncomputable def sliceX (ev : Option Int → Expr → Res PyData) (ρ : Loc) (p : Option Int) (x : Str) (lo hi e : Expr) (pos : Pos) : Res (Fl × Loc) :=
  (Res.ofOpt p (ownOf (look ρ x))).bind fun xs p => (ev p (.List [e] pos)).bind fun d p => (ev p lo).bind fun a p => (ev p hi).bind fun b p => (Res.ofOpt p (cutOf xs d a b)).bind fun zs p => goOn (put ρ x (.own zs)) p
noncomputable def augOf (op : Operator) (a b : PyData) : Option PyData := match op with
  | .Add => intsP (fun i j => some (.int (i + j))) a b
  | .Sub => intsP (fun i j => some (.int (i - j))) a b
  | _ => none
noncomputable def augX (ev : Option Int → Expr → Res PyData) (ρ : Loc) (p : Option Int) (x : Str) (xp : Pos) (op : Operator) (e : Expr) : Res (Fl × Loc) :=
  (ev p (.Name x xp)).bind fun a p => (ev p e).bind fun b p => (Res.ofOpt p (augOf op a b)).bind fun d p => setR ρ x d p
noncomputable def errR (m : Str) (c : PyData) (p : Option Int) : Res (Fl × Loc) := .err ⟨m, c⟩ p
noncomputable def raise2X (ev : Option Int → Expr → Res PyData) (ρ : Loc) (p : Option Int) (f : Str) (a b : Expr) : Res (Fl × Loc) :=
  Res.when (f == ("error" : Str) && isGlob ρ f && notStar b) ((ev p a).bind fun m p => (ev p b).bind fun c p => (Res.ofOpt p (strOf m)).bind fun m p => Res.when (flat c) (errR m c p))
noncomputable def raise1X (ev : Option Int → Expr → Res PyData) (ρ : Loc) (p : Option Int) (f : Str) (a : Expr) : Res (Fl × Loc) :=
  Res.when (f == ("wrong_args" : Str) && isGlob ρ f) ((ev p a).bind fun m p => (Res.ofOpt p (strOf m)).bind fun u p => Res.when (decide (u.length ≤ 1000)) (errR (("wrong # args: should be \"" : Str) ++ u ++ ("\"" : Str)) (.tuple [.str "TCL", .str "WRONGARGS"]) p))
/-- what the handler of a try gives back -/
structure TryS where
  f : Str
  x : Str
  g : Str
  x1 : Str
  a1 : Str
  x2 : Str
  a2 : Str
  x3 : Str
  a3 : Str
noncomputable def TryS.ok (t : TryS) (ρ : Loc) : Bool := t.f == ("Raised" : Str) && isGlob ρ t.f && isLocal ρ t.x && t.x1 == t.x && t.x2 == t.x && t.x3 == t.x && t.a1 == ("code" : Str) && t.a2 == ("value" : Str) && t.a3 == ("errorcode" : Str) && !((["code", "value", "errorcode"] : List Str).contains t.x)
noncomputable def tryR (r : Res PyData) (ρ : Loc) (g : Str) : Res (Fl × Loc) := match r with
  | .ok d p => .ok (.ret d, ρ) p
  | .err x p => .ok (.ret (.tuple [.str g, .int 1, .str x.msg, x.code]), []) p
  | .stuck => .stuck
noncomputable def tryX (ev : Option Int → Expr → Res PyData) (ρ : Loc) (p : Option Int) (e : Expr) (t : TryS) : Res (Fl × Loc) := Res.when (t.ok ρ) (tryR (ev p e) ρ t.g)
set_option genInjectivity false in
set_option genSizeOf false in
/-- a statement, looked at once -/
structure Sw (s : Stmt) where
  rt : Option {a : Expr × Pos // s = .Return (some a.1) a.2} := none
  ex : Option {a : Expr × Pos // s = .Expr a.1 a.2} := none
  ag : Option {a : List Expr × Expr × Pos // s = .Assign a.1 a.2.1 a.2.2} := none
noncomputable def sw (s : Stmt) : Sw s := match s with
  | .Return v q => { rt := match v with
    | some e => some ⟨(e, q), rfl⟩
    | none => none }
  | .Expr v q => { ex := some ⟨(v, q), rfl⟩ }
  | .Assign ts e q => { ag := some ⟨(ts, e, q), rfl⟩ }
  | _ => {}
noncomputable def asRet (s : Stmt) : Option (Expr × Pos) := val (sw s).rt
noncomputable def asExp (s : Stmt) : Option (Expr × Pos) := val (sw s).ex
noncomputable def asAsg (s : Stmt) : Option (List Expr × Expr × Pos) := val (sw s).ag
noncomputable def asHand : ExceptHandler → Option (Expr × Str × List Stmt × Pos)
  | .ExceptHandler t n b q => t.bind fun t => n.bind fun n => some (t, n, b, q)
noncomputable def asNameAttr (e : Expr) : Option (Str × Pos × Str × Pos) := (asAttr e).bind fun a => (asName a.1).bind fun x => some (x.1, x.2, a.2.1, a.2.2)
noncomputable def asStrC (e : Expr) : Option (Str × Nat × Pos) := (asConst e).bind fun c => (strC c.1).bind fun x => some (x, c.2)
noncomputable def tupOf4 (es : List Expr) : Option (Expr × Expr × Expr × Expr) := match es with
  | [] => none
  | a :: r => match r with
    | [] => none
    | b :: r => (two r).bind fun cd => some (a, b, cd.1, cd.2)
/-- (g, x.a, x.b, x.c) -/
noncomputable def asFour (e : Expr) : Option ((Str × Nat × Pos) × (Str × Pos × Str × Pos) × (Str × Pos × Str × Pos) × (Str × Pos × Str × Pos) × Nat × Pos) :=
  (asTup e).bind fun t => (tupOf4 t.1).bind fun q => (asStrC q.1).bind fun g => (asNameAttr q.2.1).bind fun a => (asNameAttr q.2.2.1).bind fun b => (asNameAttr q.2.2.2).bind fun c => some (g, a, b, c, t.2)
/-- except f as x: return (..) -/
noncomputable def asExc (hs : List ExceptHandler) : Option ((Str × Pos) × Str × (Expr × Pos) × Pos) := (one hs).bind fun h => (asHand h).bind fun h => (asName h.1).bind fun f => (one h.2.2.1).bind fun s => (asRet s).bind fun r => some (f, h.2.1, r, h.2.2.2)
noncomputable def asTry (body : List Stmt) (hs : List ExceptHandler) : Option (Expr × TryS) :=
  (one body).bind fun b => (asRet b).bind fun r => (asExc hs).bind fun h => (asFour h.2.2.1.1).bind fun q => some (r.1, ⟨h.1.1, h.2.1, q.1.1, q.2.1.1, q.2.1.2.2.1, q.2.2.1.1, q.2.2.1.2.2.1, q.2.2.2.1.1, q.2.2.2.1.2.2.1⟩)
/-- x.m(e) -/
noncomputable def asApp (v : Expr) : Option ((Str × Pos × Str × Pos) × Expr × Pos) := (asCall v).bind fun c => (asNameAttr c.1).bind fun a => (one c.2.1).bind fun e => some (a, e, c.2.2)
/-- list(e) -/
noncomputable def listArg (ρ : Loc) (e : Expr) : Option (Str × Pos × Expr × Pos) := (asCallN e).bind fun c => (one c.2.2.1).bind fun a => only (c.1 == ("list" : Str) && isGlob ρ c.1 && notStar a) (some (c.1, c.2.1, a, c.2.2.2))
noncomputable def asCut (i : Expr) : Option (Expr × Expr × Pos) := (asSlice i).bind fun s => s.1.bind fun lo => s.2.1.bind fun hi => match s.2.2.1 with
  | none => some (lo, hi, s.2.2.2)
  | some _ => none
noncomputable def nameX (ev : Option Int → Expr → Res PyData) (ρ : Loc) (p : Option Int) (e : Expr) (x : Str) (xp : Pos) : Res (Fl × Loc) := match asComp e with
  | some c => compX ev ρ p x xp c.1 c.2.1 c.2.2.1 c.2.2.2
  | none => match listArg ρ e with
    | some a => listX ev ρ p x a.2.2.1
    | none => (ev p e).bind (setR ρ x)
noncomputable def assignX (ev : Option Int → Expr → Res PyData) (ρ : Loc) (p : Option Int) (e : Expr) : Expr → Res (Fl × Loc)
  | .Name x xp => nameX ev ρ p e x xp
  | .Tuple ts k tp => (match asTup e with
    | some v => swapX ev ρ p ts v.1
    | none => tupX ev ρ p (.Tuple ts k tp) e)
  | .Subscript v i _ => onSome (asName v) fun x => (match zeroE i with
    | true => penX ev ρ p x.1 e
    | false => onSome (asCut i) fun c => onSome (asLst e) fun l => onSome (one l.1) fun a => sliceX ev ρ p x.1 c.1 c.2.1 a l.2)
  | _ => .stuck
noncomputable def raiseX (ev : Option Int → Expr → Res PyData) (ρ : Loc) (p : Option Int) (exc : Expr) : Res (Fl × Loc) := onSome (asCallN exc) fun c => match one c.2.2.1 with
  | some a => raise1X ev ρ p c.1 a
  | none => onSome (two c.2.2.1) fun ab => raise2X ev ρ p c.1 ab.1 ab.2

/-- one statement -/
noncomputable def exP (C : CallP) : Nat → Loc → Option Int → Stmt → Res (Fl × Loc)
  | 0, _, _, _ => .stuck
  | n + 1, ρ, p, st => match st with
    | .Expr v _ => onSome (asApp v) fun a => appendX (evP n C false ρ) ρ p a.1.1 a.1.2.2.1 a.1.2.2.2 a.2.1 a.2.2
    | .Assign ts e _ => onSome (one ts) fun t => assignX (evP n C false ρ) ρ p e t
    | .AugAssign t op e _ => onSome (asName t) fun x => augX (evP n C false ρ) ρ p x.1 x.2 op e
    | .If t a b _ => (evP n C true ρ p t).bind (onBool (fun p => exsP (exP C n) a ρ p) fun p => exsP (exP C n) b ρ p)
    | .While t b els _ => (match els with
      | [] => (whileP (fun ρ p => evP n C true ρ p t) (fun ρ p => exsP (exP C n) b ρ p) whileFuel ρ p).calm
      | _ :: _ => .stuck)
    | .For tg iter b els _ => (match els with
      | [] => (forItems (isTup tg) (evP n C false ρ) ρ p iter).bind fun items p => (forP (fun d ρ p => (Res.ofOpt p (bindP tg d ρ)).bind fun ρ p => exsP (exP C n) b ρ p) items ρ p).calm
      | _ :: _ => .stuck)
    | .Return v _ => (match v with
      | some e => (evP n C false ρ p e).bind fun d p => .ok (.ret d, ρ) p
      | none => .ok (.ret .none, ρ) p)
    | .Raise exc c _ => (match c with
      | none => onSome exc (raiseX (evP n C false ρ) ρ p)
      | some _ => .stuck)
    | .Try body hs els fin _ => (match els with
      | [] => (match fin with
        | [] => onSome (asTry body hs) fun t => tryX (evP n C false ρ) ρ p t.1 t.2
        | _ :: _ => .stuck)
      | _ :: _ => .stuck)
    | _ => .stuck

noncomputable def locOf (scope : Scope) (names : List Str) (args : List LV) : Loc := scope.names.filterMap fun y => match y.2 with
  | .local => some (y.1, ((names.zip args).lookup y.1).getD .unb)
  | .cell => (match (names.zip args).lookup y.1 with
    | some (.val d) => some (y.1, .cell d)
    | _ => none)
  | .globalImplicit => some (y.1, .glob)
  | _ => none

noncomputable def nestFuel : Nat := 60

noncomputable def backR (fl : Fl) (p : Option Int) : Res PyData := match fl with
  | .ret v => .ok v p
  | .next => .ok .none p
  | _ => .stuck
/-- the call of a def of the text -/
noncomputable def callP (D : Str → Option DefRec) : Nat → CallP
  | 0, _, _, _ => .stuck
  | k + 1, f, args, p => onSome (D f) fun d => Res.when (decide (d.params.args.length = args.length)) ((exsP (exP (callP D k) nestFuel) d.body (locOf d.scope (d.params.args.map (·.arg)) args) p).bind fun r p => backR r.1 p)
end Mine

namespace Mine
open PySem PySem.W PyProof.Rows

/-! the heap's change: all but the addresses in P stay, up to slots -/

theorem no_some {α : Type} {a : α} {P : Prop} (h : none = some a) : P := by cases h
noncomputable def NonRec (o : Obj) : Prop := ∀ vs, o.data ≠ .fields vs
noncomputable def Live (h : Heap) (b : Addr) : Prop := ∃ o, h.get? b = some o
noncomputable def KeepS (P : Addr → Prop) (h h' : Heap) : Prop :=
  ∀ b o, h.get? b = some o → h'.get? b = some o ∨ (o.cls = .type "frame" ∧ ∃ sl, h'.get? b = some { o with slots := sl }) ∨ (P b ∧ o.cls ≠ .type "tuple" ∧ ∃ o', h'.get? b = some o' ∧ o'.cls = o.cls ∧ (NonRec o → NonRec o'))

theorem KeepS.refl (P : Addr → Prop) (h : Heap) : KeepS P h h := fun _ _ e => .inl e
theorem KeepS.live {P : Addr → Prop} {h h' : Heap} (k : KeepS P h h') {b : Addr} (x : Live h b) : Live h' b := by
  obtain ⟨o, ho⟩ := x
  rcases k b o ho with e | ⟨_, sl, e⟩ | ⟨_, _, o', e, _⟩
  · exact ⟨_, e⟩
  · exact ⟨_, e⟩
  · exact ⟨_, e⟩
theorem KeepS.trans {P P' : Addr → Prop} {h₁ h₂ h₃ : Heap} (x : KeepS P h₁ h₂) (y : KeepS P' h₂ h₃) (hp : ∀ b, P' b → Live h₁ b → P b) : KeepS P h₁ h₃ := by
  refine fun b o ho => (x b o ho).elim (fun e => (y b _ e).imp id (Or.imp id fun z => ⟨hp b z.1 ⟨o, ho⟩, z.2⟩)) fun z => z.elim (fun f => f.2.elim fun sl e => (y b _ e).elim (fun e' => .inr (.inl ⟨f.1, sl, e'⟩)) fun z => .inr (z.imp (fun g => ⟨f.1, g.2⟩) fun g => ⟨hp b g.1 ⟨o, ho⟩, g.2⟩)) fun p => .inr (.inr ⟨?_, p.2.1, ?_⟩)
  · exact p.1
  · refine p.2.2.elim fun o' e => (y b _ e.1).elim (fun e' => ⟨o', e', e.2⟩) fun z => z.elim (fun g => g.2.elim fun sl e' => ⟨_, e', e.2⟩) fun g => g.2.2.elim fun o'' e' => ⟨o'', e'.1, e'.2.1.trans e.2.1, fun q => e'.2.2 (e.2.2 q)⟩
theorem KeepS.of_exact {P : Addr → Prop} {h h' : Heap} (k : ∀ b o, h.get? b = some o → h'.get? b = some o) : KeepS P h h' := fun b o e => .inl (k b o e)
theorem KeepS.mono {P P' : Addr → Prop} {h h' : Heap} (k : KeepS P h h') (hp : ∀ b, P b → P' b) : KeepS P' h h' := fun b o e => (k b o e).imp id (Or.imp id fun ⟨p, r⟩ => ⟨hp b p, r⟩)
/-- what is no frame and not in P stays to the sign -/
theorem KeepS.at {P : Addr → Prop} {h h' : Heap} (k : KeepS P h h') {b : Addr} {o : Obj} (e : h.get? b = some o) (hc : o.cls ≠ .type "frame") (hp : ¬ P b) : h'.get? b = some o := by
  rcases k b o e with e | ⟨f, _⟩ | ⟨p, _⟩
  · exact e
  · exact absurd f hc
  · exact absurd p hp
theorem KeepS.atD {P : Addr → Prop} {h h' : Heap} (k : KeepS P h h') {b : Addr} {o : Obj} (e : h.get? b = some o) (hp : ¬ P b) : ∃ sl, h'.get? b = some { o with slots := sl } := by
  rcases k b o e with e | ⟨_, f⟩ | ⟨p, _⟩
  · exact ⟨o.slots, e⟩
  · exact f
  · exact absurd p hp
theorem not_live_of_none {h : Heap} {b : Addr} (e : h.get? b = none) : ¬ Live h b := fun ⟨o, ho⟩ => by rw [e] at ho; cases ho
theorem nonRec_seq {o : Obj} {vs : Array Value} {n : Nat} (h : o.data = .seq vs n) : NonRec o := fun ws q => by rw [h] at q; cases q
theorem nonRec_dict {o : Obj} {es : Array DictEntry} {n : Nat} (h : o.data = .dict es n) : NonRec o := fun ws q => by rw [h] at q; cases q
theorem cls_ne {v : Value} {x : String} (h : v = .type x) (hx : x ≠ "frame") : v ≠ .type "frame" := by subst h; intro q; cases q; exact hx rfl

theorem reads_ind {h : Heap} {M : Value → PyData → List Addr → Prop} {N : List Value → List PyData → List Addr → Prop} (c0 : M .none .none []) (c1 : ∀ b, M (.bool b) (.bool b) []) (c2 : ∀ i t, M (.int i t) (.int i) []) (c3 : ∀ x t, M (.str x t) (.str x) [])
    (c4 : ∀ {a o vs n xs as}, h.get? a = some o → o.cls = .type "list" → o.data = .seq vs n → N vs.toList xs as → M (.ref a) (.list xs) (a :: as))
    (c5 : ∀ {a o vs n xs as}, h.get? a = some o → o.cls = .type "tuple" → o.data = .seq vs n → N vs.toList xs as → M (.ref a) (.tuple xs) as)
    (c6 : ∀ {a o es n kvs as bs}, h.get? a = some o → o.cls = .type "dict" → o.data = .dict es n → N (es.toList.map (·.key)) (kvs.map (·.1)) as → N (es.toList.map (·.val)) (kvs.map (·.2)) bs → M (.ref a) (.dict kvs) (a :: as ++ bs))
    (n0 : N [] [] []) (n1 : ∀ {v vs d ds as bs}, M v d as → N vs ds bs → N (v :: vs) (d :: ds) (as ++ bs)) : (∀ {v d as}, Reads h v d as → M v d as) ∧ ∀ {vs ds as}, ReadsAll h vs ds as → N vs ds as :=
  ⟨fun r => r.rec (motive_1 := fun v d as _ => M v d as) (motive_2 := fun v d as _ => N v d as) c0 c1 c2 c3 (fun a b c _ => c4 a b c) (fun a b c _ => c5 a b c) (fun a b c _ _ => c6 a b c) n0 (fun _ _ => n1),
   fun r => r.rec (motive_1 := fun v d as _ => M v d as) (motive_2 := fun v d as _ => N v d as) c0 c1 c2 c3 (fun a b c _ => c4 a b c) (fun a b c _ => c5 a b c) (fun a b c _ _ => c6 a b c) n0 (fun _ _ => n1)⟩
theorem keepS_both {P : Addr → Prop} {h h' : Heap} (hk : KeepS P h h') : (∀ {v d as}, Reads h v d as → (∀ a ∈ as, ¬ P a) → Reads h' v d as) ∧ ∀ {vs ds as}, ReadsAll h vs ds as → (∀ a ∈ as, ¬ P a) → ReadsAll h' vs ds as :=
  reads_ind (fun _ => .none) (fun b _ => .bool b) (fun i t _ => .int i t) (fun x t _ => .str x t)
    (fun h1 h2 h3 h4 q => .list (hk.at h1 (cls_ne h2 (by decide)) (q _ (.head _))) h2 h3 (h4 fun a m => q a (.tail _ m)))
    (fun h1 h2 h3 h4 q => .tuple (Classical.byContradiction fun hn => (hk _ _ h1).elim hn fun z => z.elim (fun c => cls_ne h2 (by decide) c.1) fun c => c.2.1 h2) h2 h3 (h4 q))
    (fun h1 h2 h3 h4 h5 q => .dict (hk.at h1 (cls_ne h2 (by decide)) (q _ (.head _))) h2 h3 (h4 fun a m => q a (.tail _ (List.mem_append_left _ m))) (h5 fun a m => q a (.tail _ (List.mem_append_right _ m))))
    (fun _ => .nil) (fun h1 h2 q => .cons (h1 fun a m => q a (List.mem_append_left _ m)) (h2 fun a m => q a (List.mem_append_right _ m)))
theorem reads_keepS {P : Addr → Prop} {h h' : Heap} (hk : KeepS P h h') {v : Value} {d : PyData} {as : List Addr} (r : Reads h v d as) (q : ∀ a ∈ as, ¬ P a) : Reads h' v d as := (keepS_both hk).1 r q
theorem readsAll_keepS {P : Addr → Prop} {h h' : Heap} (hk : KeepS P h h') {vs : List Value} {ds : List PyData} {as : List Addr} (r : ReadsAll h vs ds as) (q : ∀ a ∈ as, ¬ P a) : ReadsAll h' vs ds as := (keepS_both hk).2 r q
theorem mem_app {α : Type} {p : α → Prop} {as bs : List α} (x : ∀ a ∈ as, p a) (y : ∀ a ∈ bs, p a) : ∀ a ∈ as ++ bs, p a := fun a m => (List.mem_append.mp m).elim (x a) (y a)
theorem mem_cns {α : Type} {p : α → Prop} {b : α} {bs : List α} (x : p b) (y : ∀ a ∈ bs, p a) : ∀ a ∈ b :: bs, p a := fun a m => (List.mem_cons.mp m).elim (fun e => e ▸ x) (y a)
theorem live_both {h : Heap} : (∀ {v d as}, Reads h v d as → ∀ a ∈ as, Live h a) ∧ ∀ {vs ds as}, ReadsAll h vs ds as → ∀ a ∈ as, Live h a :=
  reads_ind (N := fun _ _ as => ∀ a ∈ as, Live h a) (fun _ m => nomatch m) (fun _ _ m => nomatch m) (fun _ _ _ m => nomatch m) (fun _ _ _ m => nomatch m)
    (fun h1 _ _ h4 => mem_cns ⟨_, h1⟩ h4) (fun _ _ _ h4 => h4) (fun h1 _ _ h4 h5 => mem_app (mem_cns ⟨_, h1⟩ h4) h5) (fun _ m => nomatch m) mem_app
theorem reads_live {h : Heap} {v : Value} {d : PyData} {as : List Addr} (r : Reads h v d as) : ∀ a ∈ as, Live h a := live_both.1 r
theorem readsAll_live {h : Heap} {vs : List Value} {ds : List PyData} {as : List Addr} (r : ReadsAll h vs ds as) : ∀ a ∈ as, Live h a := live_both.2 r
theorem flat_both {h : Heap} : (∀ {v d as}, Reads h v d as → flat d = true → as = []) ∧ ∀ {vs ds as}, ReadsAll h vs ds as → flats ds = true → as = [] :=
  reads_ind (N := fun _ ds as => flats ds = true → as = []) (fun _ => rfl) (fun _ _ => rfl) (fun _ _ _ => rfl) (fun _ _ _ => rfl) (fun _ _ _ _ q => nomatch (show false = true from q)) (fun _ _ _ h4 q => h4 q) (fun _ _ _ _ _ q => nomatch (show false = true from q))
    (fun _ => rfl) (fun {_ _ d ds _ _} h1 h2 q => have q' := Bool.and_eq_true_iff.mp (show (flat d && flats ds) = true from q); by rw [h1 q'.1, h2 q'.2]; rfl)
theorem reads_flat {h : Heap} {v : Value} {d : PyData} {as : List Addr} (r : Reads h v d as) (q : flat d = true) : as = [] := flat_both.1 r q
theorem readsAll_flat {h : Heap} {vs : List Value} {ds : List PyData} {as : List Addr} (r : ReadsAll h vs ds as) (q : flats ds = true) : as = [] := flat_both.2 r q

/-- v is read as d, and no list of it lies in P -/
noncomputable def Rd (P : Addr → Prop) (h : Heap) (v : Value) (d : PyData) : Prop := ∃ as, Reads h v d as ∧ ∀ a ∈ as, ¬ P a
noncomputable def Rds (P : Addr → Prop) (h : Heap) (vs : List Value) (ds : List PyData) : Prop := ∃ as, ReadsAll h vs ds as ∧ ∀ a ∈ as, ¬ P a
theorem Rd.keep {P P' : Addr → Prop} {h h' : Heap} {v d} (x : Rd P h v d) (k : KeepS P' h h') (hp : ∀ b, P' b → P b) : Rd P h' v d :=
  let ⟨as, r, n⟩ := x; ⟨as, reads_keepS k r fun a m q => n a m (hp a q), n⟩
theorem Rds.keep {P P' : Addr → Prop} {h h' : Heap} {vs ds} (x : Rds P h vs ds) (k : KeepS P' h h') (hp : ∀ b, P' b → P b) : Rds P h' vs ds :=
  let ⟨as, r, n⟩ := x; ⟨as, readsAll_keepS k r fun a m q => n a m (hp a q), n⟩
theorem Rd.wider {P P' : Addr → Prop} {h : Heap} {v d} (x : Rd P h v d) (hp : ∀ b, P' b → Live h b → P b) : Rd P' h v d :=
  let ⟨as, r, n⟩ := x; ⟨as, r, fun a m q => n a m (hp a q (reads_live r a m))⟩
theorem Rd.flat {P P' : Addr → Prop} {h : Heap} {v d} (x : Rd P h v d) (hf : flat d = true) : Rd P' h v d :=
  let ⟨as, r, _⟩ := x; ⟨as, r, fun a m => by rw [reads_flat r hf] at m; cases m⟩
theorem Rd.of {P : Addr → Prop} {h : Heap} {v d} (r : Reads h v d []) : Rd P h v d := ⟨[], r, fun _ m => nomatch m⟩
theorem Rds.nil {P : Addr → Prop} {h : Heap} : Rds P h [] [] := ⟨[], .nil, fun _ m => nomatch m⟩
theorem Rds.cons {P : Addr → Prop} {h : Heap} {v d vs ds} (x : Rd P h v d) (y : Rds P h vs ds) : Rds P h (v :: vs) (d :: ds) :=
  let ⟨as, r, n⟩ := x; let ⟨bs, r', n'⟩ := y; ⟨as ++ bs, .cons r r', fun a m => (List.mem_append.mp m).elim (n a) (n' a)⟩
theorem Rds.length {P : Addr → Prop} {h : Heap} {vs : List Value} {ds : List PyData} (x : Rds P h vs ds) : vs.length = ds.length := by
  obtain ⟨as, r, _⟩ := x
  exact SeqAt.ReadsAll.length _ _ _ r
theorem Rds.at {P : Addr → Prop} {h : Heap} {vs : List Value} {ds : List PyData} (x : Rds P h vs ds) {k : Nat} {d : PyData} (e : ds[k]? = some d) : ∃ v, vs[k]? = some v ∧ Rd P h v d :=
  let ⟨_, r, n⟩ := x
  ((reads_ind (M := fun v d as => Reads h v d as) (N := fun vs ds as => ReadsAll h vs ds as ∧ ((∀ a ∈ as, ¬ P a) → ∀ k d, ds[k]? = some d → ∃ v, vs[k]? = some v ∧ Rd P h v d)) .none .bool .int .str
    (fun a b c d => .list a b c d.1) (fun a b c d => .tuple a b c d.1) (fun a b c d e => .dict a b c d.1 e.1) ⟨.nil, fun _ k d e => by cases e⟩ fun h1 h2 => ⟨.cons h1 h2.1, fun n k d e => match k with
      | 0 => ⟨_, rfl, _, Option.some.inj e ▸ h1, fun a m => n a (List.mem_append_left _ m)⟩
      | k + 1 => h2.2 (fun a m => n a (List.mem_append_right _ m)) k d e⟩).2 r).2 n k d e
theorem Rds.at' {P : Addr → Prop} {h : Heap} : ∀ {vs : List Value} {ds : List PyData}, Rds P h vs ds → ∀ {k : Nat} {v : Value}, vs[k]? = some v → ∃ d, ds[k]? = some d ∧ Rd P h v d := by
  intro vs ds x k v e
  have hl := x.length
  have hk : k < ds.length := by rw [← hl]; exact (List.getElem?_eq_some_iff.mp e).1
  obtain ⟨v', hv, r⟩ := x.at (k := k) (d := ds[k]) (by simp [hk])
  rw [e] at hv; cases hv
  exact ⟨ds[k], by simp [hk], r⟩
theorem Rds.append {P : Addr → Prop} {h : Heap} {ws : List Value} {es : List PyData} {vs : List Value} {ds : List PyData} (x : Rds P h vs ds) (y : Rds P h ws es) : Rds P h (vs ++ ws) (ds ++ es) :=
  let ⟨_, r, n⟩ := x
  ((reads_ind (M := fun v d as => Reads h v d as) (N := fun vs ds as => ReadsAll h vs ds as ∧ ((∀ a ∈ as, ¬ P a) → Rds P h (vs ++ ws) (ds ++ es))) .none .bool .int .str
    (fun a b c d => .list a b c d.1) (fun a b c d => .tuple a b c d.1) (fun a b c d e => .dict a b c d.1 e.1) ⟨.nil, fun _ => y⟩ fun h1 h2 => ⟨.cons h1 h2.1, fun n => Rds.cons ⟨_, h1, fun a m => n a (List.mem_append_left _ m)⟩ (h2.2 fun a m => n a (List.mem_append_right _ m))⟩).2 r).2 n
theorem Rd.list {P : Addr → Prop} {h : Heap} {a : Addr} {items : Array Value} {xs : List PyData} (l : h.IsList a items) (r : Rds P h items.toList xs) (hp : ¬ P a) : Rd P h (.ref a) (.list xs) := by
  obtain ⟨o, ho, hc, n, hd⟩ := l
  obtain ⟨as, r, q⟩ := r
  exact ⟨a :: as, .list ho hc hd r, fun b m => by rcases List.mem_cons.mp m with rfl | m; exact hp; exact q b m⟩
theorem Rd.list_inv {P : Addr → Prop} {h : Heap} {v : Value} {xs : List PyData} (r : Rd P h v (.list xs)) : ∃ a items, v = .ref a ∧ h.IsList a items ∧ Rds P h items.toList xs ∧ ¬ P a := by
  obtain ⟨as, r, n⟩ := r
  obtain ⟨a, vs, bs, rfl, l, r', rfl⟩ := isList_of_reads r
  exact ⟨a, vs, rfl, l, ⟨bs, r', fun b m => n b (.tail _ m)⟩, n a (.head _)⟩
theorem Rd.tuple {P : Addr → Prop} {h : Heap} {a : Addr} {items : Array Value} {xs : List PyData} (l : h.IsTuple a items) (r : Rds P h items.toList xs) : Rd P h (.ref a) (.tuple xs) := by
  obtain ⟨o, ho, hc, n, hd⟩ := l
  obtain ⟨as, r, q⟩ := r
  exact ⟨as, .tuple ho hc hd r, q⟩
noncomputable def Shape (h : Heap) (v : Value) (as : List Addr) : PyData → Prop
  | .none => v = .none
  | .bool b => v = .bool b
  | .int i => ∃ t, v = .int i t
  | .str x => ∃ t, v = .str x t
  | .tuple xs => ∃ a items, v = .ref a ∧ h.IsTuple a items ∧ ReadsAll h items.toList xs as
  | _ => True
theorem shape_of {h : Heap} {v : Value} {d : PyData} {as : List Addr} (r : Reads h v d as) : Shape h v as d :=
  r.casesOn (motive_1 := fun v d as _ => Shape h v as d) rfl (fun _ => rfl) (fun _ t => ⟨t, rfl⟩) (fun _ t => ⟨t, rfl⟩) (fun _ _ _ _ => trivial) (fun h1 h2 h3 h4 => ⟨_, _, rfl, ⟨_, h1, h2, _, h3⟩, h4⟩) fun _ _ _ _ _ => trivial
theorem Rd.tuple_inv {P : Addr → Prop} {h : Heap} {v : Value} {xs : List PyData} (r : Rd P h v (.tuple xs)) : ∃ a items, v = .ref a ∧ h.IsTuple a items ∧ Rds P h items.toList xs :=
  r.elim fun as r => (shape_of r.1).imp fun _ x => x.imp fun _ x => ⟨x.1, x.2.1, as, x.2.2, r.2⟩
theorem Rd.int_inv {P : Addr → Prop} {h : Heap} {v : Value} {i : Int} (r : Rd P h v (.int i)) : ∃ t, v = .int i t := r.elim fun _ r => shape_of r.1
theorem Rd.str_inv {P : Addr → Prop} {h : Heap} {v : Value} {x : Str} (r : Rd P h v (.str x)) : ∃ t, v = .str x t := r.elim fun _ r => shape_of r.1
theorem Rd.bool_inv {P : Addr → Prop} {h : Heap} {v : Value} {b : Bool} (r : Rd P h v (.bool b)) : v = .bool b := r.elim fun _ r => shape_of r.1
theorem Rd.none_inv {P : Addr → Prop} {h : Heap} {v : Value} (r : Rd P h v .none) : v = .none := r.elim fun _ r => shape_of r.1

theorem Rd.int {P : Addr → Prop} {h : Heap} (i : Int) (t : Tok) : Rd P h (.int i t) (.int i) := .of (.int i t)
theorem Rd.str {P : Addr → Prop} {h : Heap} (x : Str) (t : Tok) : Rd P h (.str x t) (.str x) := .of (.str x t)
theorem Rd.bool {P : Addr → Prop} {h : Heap} (b : Bool) : Rd P h (.bool b) (.bool b) := .of (.bool b)
theorem Rd.none {P : Addr → Prop} {h : Heap} : Rd P h .none .none := .of .none
end Mine

namespace Mine
open PySem PySem.W PyProof.Rows

theorem keeps_refl (s : Shared) : Keeps s s := ⟨s.heap, s.toks, rfl, fun _ _ e => e⟩
theorem keeps_toks (s : Shared) (k : Nat) : Keeps s { s with toks := k } := ⟨s.heap, k, rfl, fun _ _ e => e⟩
theorem keeps_trans {s₁ s₂ s₃ : Shared} (x : Keeps s₁ s₂) (y : Keeps s₂ s₃) : Keeps s₁ s₃ := by
  obtain ⟨h, t, rfl, k⟩ := x
  obtain ⟨h', t', rfl, k'⟩ := y
  exact ⟨h', t', rfl, fun b o e => k' b o (k b o e)⟩
theorem keeps_push (s : Shared) (o : Obj) : Keeps s { s with heap := s.heap.push o } := ⟨_, s.toks, rfl, fun _ _ e => Heap.get?_push_of_some _ e⟩
theorem keeps_push' (s : Shared) (o : Obj) (k : Nat) : Keeps s { s with heap := s.heap.push o, toks := k } := ⟨_, k, rfl, fun _ _ e => Heap.get?_push_of_some _ e⟩
theorem keeps_exact {s s' : Shared} (x : Keeps s s') : ∀ b o, s.heap.get? b = some o → s'.heap.get? b = some o := by obtain ⟨h, t, rfl, k⟩ := x; exact k
theorem keeps_keepS {W : Addr → Prop} {s s' : Shared} (x : Keeps s s') : KeepS W s.heap s'.heap := .of_exact (keeps_exact x)
theorem Rd.exact {W : Addr → Prop} {s s' : Shared} {v d} (x : Rd W s.heap v d) (k : Keeps s s') : Rd W s'.heap v d := x.keep (P' := W) (keeps_keepS k) fun _ h => h
theorem Rds.exact {W : Addr → Prop} {s s' : Shared} {v d} (x : Rds W s.heap v d) (k : Keeps s s') : Rds W s'.heap v d := x.keep (P' := W) (keeps_keepS k) fun _ h => h
theorem isList_push {h : Heap} (items : Array Value) : (h.push { cls := .type "list", data := .seq items }).IsList h.objs.size items := ⟨_, Heap.get?_push_size _ rfl, rfl, 0, rfl⟩
theorem isTuple_push {h : Heap} (items : Array Value) : (h.push { cls := .type "tuple", data := .seq items }).IsTuple h.objs.size items := ⟨_, Heap.get?_push_size _ rfl, rfl, 0, rfl⟩

/-- the addresses in P are old ones: a new object is none of them -/
noncomputable def Old (W : Addr → Prop) (h : Heap) : Prop := ∀ b, W b → b < h.objs.size
theorem Old.fresh {W : Addr → Prop} {h : Heap} (o : Old W h) : ¬ W h.objs.size := fun q => Nat.lt_irrefl _ (o _ q)

section
variable {prog : Program} {w : World} {A : Around} {E : Value → Shared → Prop} {s : Shared} {W : Addr → Prop} {Q : Value → Shared → Prop}

open Builtin in
theorem list_add_any (l : Addr) (items : Array Value) (n : Nat) (b : Addr) (items2 : Array Value) (n2 : Nat) (d d2 : Option Addr) (sl sl2 : Array (Option Value)) (hc0 : items.size + items2.size ≤ sizeLine) :
    Meets (Builtin.«list.__add__» ⟨[.ref l, .ref b], []⟩) (fun _ R s => s.heap.get? l = some { cls := .type "list", dict := d, data := .seq items n, slots := sl } ∧ s.heap.get? b = some { cls := .type "list", dict := d2, data := .seq items2 n2, slots := sl2 } ∧ R (.ok (.ret (Value.ref s.heap.objs.size))) { s with heap := s.heap.push { cls := Value.type "list", data := Data.seq (items ++ items2) }, toks := s.toks }) :=
  .of_wp fun prog w A R s h => by obtain ⟨hp, g, d, tk, os⟩ := s; obtain ⟨hl, hb, h⟩ := h; have f1 := AutoSeq1.idx_int; have f2 := AutoSeq1.sub_tuple_tuple; have f3 := AutoSeq1.sub_list_list; have f4 := AutoSeq1.sub_tuple_list; have f5 := AutoSeq1.sub_list_tuple; wp_walk using wpAny_loadPart' hl, wpAny_loadPart' hb; exact ⟨_, rfl, h⟩

theorem add_lists {l b : Addr} {items items2 : Array Value} (hl : s.heap.IsList l items) (hb : s.heap.IsList b items2) (hsz : items.size + items2.size ≤ sizeLine)
    (h : Q (.ref s.heap.objs.size) { s with heap := s.heap.push { cls := .type "list", data := .seq (items ++ items2) } }) : wpAny (model prog w) A (binaryOp .Add (.ref l) (.ref b)) Q E s := by
  obtain ⟨⟨cls, d, data, sl⟩, ho, hcl, k, hd⟩ := id hl
  obtain ⟨⟨cls2, d2, data2, sl2⟩, ho2, hcl2, k2, hd2⟩ := id hb
  simp only at hcl hd hcl2 hd2
  subst hcl hd hcl2 hd2
  exact concat_meets ⟨_, ho, rfl⟩ ⟨_, ho2, rfl⟩ noFill_list_add seq_list_add F.slot_list_add F.entry_list_add (F.args_list_add_2 _ _) (list_add_any l items k b items2 k2 d d2 sl sl2 hsz) ⟨ho, ho2, h⟩

theorem mul_list {l : Addr} {items : Array Value} {x : Int} {u : Tok} (hl : s.heap.IsList l items) (hlo : -(2 ^ 63 : Int) ≤ x) (hhi : x < 2 ^ 63) (hsz : items.size * x.toNat ≤ 1000)
    (h : Q (.ref s.heap.objs.size) { s with heap := s.heap.push { cls := .type "list", data := .seq (List.replicate x.toNat items.toList).flatten.toArray } }) : wpAny (model prog w) A (binaryOp .Mult (.ref l) (.int x u)) Q E s := by
  obtain ⟨⟨cls, d, data, sl⟩, ho, hcl, k, hd⟩ := id hl
  simp only at hcl hd
  subst hcl hd
  refine wpAny_binaryOp_repeat_ref (T := "list") (U := "int") (by decide) ⟨_, ho, rfl⟩ (fun s' => typeIs_int s' x u) noFill_list_mul F.fills_int_mul F.slot_int_rmul repeat_list F.slot_int_index.lookup
    (call_meets F.slot_int_rmul (typeIs_int s x u) F.entry_int_rmul (F.args_int_rmul_2 _ _) (lm_int_rmul_list_any x u l items k d sl)
      ⟨ho, rfl, ⟨_, ho, rfl⟩, call_meets F.slot_list_mul ⟨_, ho, rfl⟩ F.entry_list_mul (F.args_list_mul_2 _ _)
        (lm_list_mul_any l items k d sl x u (by simp [Builtin.List.listFitsIndex]; lia) (by lia) (by simp [Builtin.List.listTooLong, sizeLine]; lia))
        ⟨ho, ?_⟩⟩)
  rw [listMul_foldl_if]
  exact h

theorem replicate_rds {h : Heap} {v : Value} {d : PyData} (r : Rd W h v d) : ∀ n : Nat, Rds W h (List.replicate n v) (List.replicate n d)
  | 0 => .nil
  | n + 1 => .cons r (replicate_rds r n)

theorem mulOk {x : Str} {n : Int} (h1 : n ≤ 1000) (h2 : x.length ≤ 1000) (h3 : -(2 ^ 63) ≤ n) : MulOk x n := by
  refine ⟨by simp; lia, fun h _ => ?_, fun h _ => ?_⟩
  · have hn : 1 ≤ n := by lia
    have : (1000 : Int) ≤ (2 ^ 63 - 1) / n := by
      rw [Int.le_ediv_iff_mul_le (by lia)]
      lia
    lia
  · have : x.length * n.toNat ≤ 1000 * 1000 := Nat.mul_le_mul h2 (by lia)
    simp [Builtin.Str.tooLong, sizeLine]; lia

theorem only_inv {α : Type} {c : Bool} {o : Option α} {d : α} (h : only c o = some d) : c = true ∧ o = some d := by
  cases c with
  | true => exact ⟨rfl, h⟩
  | false => cases h
theorem intOf_inv {d : PyData} {i : Int} (h : intOf d = some i) : d = .int i := by
  cases d with
  | int j => cases h; rfl
  | _ => exact no_some h
theorem strOf_inv {d : PyData} {i : Str} (h : strOf d = some i) : d = .str i := by
  cases d with
  | str j => cases h; rfl
  | _ => exact no_some h
theorem lstOf_inv {d : PyData} {i : List PyData} (h : lstOf d = some i) : d = .list i := by
  cases d with
  | list j => cases h; rfl
  | _ => exact no_some h
theorem one_inv {α : Type} {l : List α} {a : α} (h : one l = some a) : l = [a] := by
  cases l with
  | nil => cases h
  | cons b r => cases r with
    | nil => cases h; rfl
    | cons _ _ => cases h
theorem two_inv {α : Type} {l : List α} {a : α × α} (h : two l = some a) : l = [a.1, a.2] := by
  cases l with
  | nil => cases h
  | cons b r => exact (Option.map_eq_some_iff.mp h).elim fun c e => by rw [one_inv e.1, ← e.2]
theorem bind_inv {α β : Type} {o : Option α} {f : α → Option β} {b : β} (h : o.bind f = some b) : ∃ a, o = some a ∧ f a = some b := Option.bind_eq_some_iff.mp h
theorem bind_go {α β : Type} {o : Option α} {f : α → Option β} {b : β} {G : Prop} (h : o.bind f = some b) (k : ∀ a, o = some a → f a = some b → G) : G := (bind_inv h).elim fun a e => k a e.1 e.2
theorem int_int {M : Value → Value → Prop} {a b : Value} {i j : Int} (ra : Rd W s.heap a (.int i)) (rb : Rd W s.heap b (.int j)) (k : ∀ t u, M (.int i t) (.int j u)) : M a b := by
  obtain ⟨t, rfl⟩ := ra.int_inv; obtain ⟨u, rfl⟩ := rb.int_inv; exact k t u
theorem str_str {M : Value → Value → Prop} {a b : Value} {i j : Str} (ra : Rd W s.heap a (.str i)) (rb : Rd W s.heap b (.str j)) (k : ∀ t u, M (.str i t) (.str j u)) : M a b := by
  obtain ⟨t, rfl⟩ := ra.str_inv; obtain ⟨u, rfl⟩ := rb.str_inv; exact k t u
theorem int2 {M : Value → Value → Prop} {f : Int → Int → Option PyData} {a b : Value} {da db d : PyData} (hb : intsP f da db = some d) (ra : Rd W s.heap a da) (rb : Rd W s.heap b db) (k : ∀ i t j u, f i j = some d → M (.int i t) (.int j u)) : M a b :=
  bind_go hb fun i ei hb => bind_go hb fun j ej hb => int_int (intOf_inv ei ▸ ra) (intOf_inv ej ▸ rb) fun t u => k i t j u hb
theorem add_sound {a b : Value} {da db d : PyData} (hP : Old W s.heap) (ra : Rd W s.heap a da) (rb : Rd W s.heap b db) (hb : addP da db = some d)
    (h : ∀ v s', Keeps s s' → Rd W s'.heap v d → Q v s') : wpAny (model prog w) A (binaryOp .Add a b) Q E s := by
  refine Classical.byContradiction fun hn => ?_
  cases da with
  | int i =>
    refine bind_go hb fun j ej hb => hn (int_int (M := fun a b => wpAny _ _ (binaryOp _ a b) _ _ _) ra (intOf_inv ej ▸ rb) fun t u => ?_)
    cases hb
    exact P.add_int (h _ _ (keeps_toks ..) (.int ..))
  | str x =>
    refine bind_go hb fun y ej hb => hn (str_str (M := fun a b => wpAny _ _ (binaryOp _ a b) _ _ _) ra (strOf_inv ej ▸ rb) fun t u => ?_)
    have hc := only_inv hb
    cases hc.2
    exact SB.add (fun t' k => h _ _ (keeps_toks ..) (.str ..)) (strLen_append x y ▸ of_decide_eq_true hc.1)
  | list x =>
    refine bind_go hb fun y ej hb => ?_
    have hc := only_inv hb
    cases hc.2
    obtain ⟨l, items, rfl, hl, rl, _⟩ := ra.list_inv
    obtain ⟨l2, items2, rfl, hl2, rl2, _⟩ := Rd.list_inv (lstOf_inv ej ▸ rb)
    have hz := of_decide_eq_true hc.1
    rw [List.length_append, ← rl.length, ← rl2.length] at hz
    refine hn (add_lists hl hl2 hz (h _ _ (keeps_push ..) (Rd.list (isList_push _) ?_ hP.fresh)))
    rw [Array.toList_append]
    exact (rl.exact (keeps_push ..)).append (rl2.exact (keeps_push ..))
  | _ => cases hb
theorem one_arr {items : Array Value} (e : items.toList.length = 1) : ∃ v, items = #[v] := (List.length_eq_one_iff.mp e).imp fun _ h => Array.toList_inj.mp h
theorem mul_sound {a b : Value} {da db d : PyData} (hP : Old W s.heap) (ra : Rd W s.heap a da) (rb : Rd W s.heap b db) (hb : mulP da db = some d)
    (h : ∀ v s', Keeps s s' → Rd W s'.heap v d → Q v s') : wpAny (model prog w) A (binaryOp .Mult a b) Q E s := by
  refine Classical.byContradiction fun hn => ?_
  cases da with
  | int i =>
    refine bind_go hb fun j ej hb => hn (int_int (M := fun a b => wpAny _ _ (binaryOp _ a b) _ _ _) ra (intOf_inv ej ▸ rb) fun t u => ?_)
    have hc := only_inv hb
    cases hc.2
    exact P.mul_int (h _ _ (keeps_toks ..) (.int ..)) fun q => by rw [q] at hc; cases hc.1
  | str x =>
    refine bind_go hb fun y ej hb => ?_
    obtain ⟨t, rfl⟩ := ra.str_inv
    obtain ⟨u, rfl⟩ := Rd.int_inv (intOf_inv ej ▸ rb)
    refine hn ?_
    have hc := only_inv hb
    cases hc.2
    have q := Bool.and_eq_true_iff.mp hc.1
    have q' := Bool.and_eq_true_iff.mp q.1
    exact SB.mul (mulOk (of_decide_eq_true q'.1) (of_decide_eq_true q'.2) (of_decide_eq_true q.2)) (fun t' k => h _ _ (keeps_toks ..) (.str ..))
  | list xs =>
    refine bind_go hb fun x ex hb => bind_go hb fun n en hb => ?_
    have hc := only_inv hb
    cases hc.2
    have q := Bool.and_eq_true_iff.mp hc.1
    have q1 := of_decide_eq_true q.1
    obtain ⟨l, items, rfl, hl, rl, _⟩ := Rd.list_inv (one_inv ex ▸ ra)
    have e1 := rl.length
    obtain ⟨u, rfl⟩ := Rd.int_inv (intOf_inv en ▸ rb)
    obtain ⟨v, rfl⟩ := one_arr e1
    obtain ⟨v', hv', rv⟩ := rl.at (k := 0) rfl
    cases hv'
    refine hn (mul_list hl (of_decide_eq_true q.2) (by omega) (by simp; omega) (h _ _ (keeps_push ..) (Rd.list (isList_push _) ?_ hP.fresh)))
    have e (k : Nat) : (List.replicate k #[v].toList).flatten.toArray.toList = List.replicate k v := by
      show (List.replicate k [v]).flatten = _
      simp
    rw [e]
    exact replicate_rds (rv.exact (keeps_push ..)) _
  | _ => cases hb

theorem bin_sound {op : Operator} {a b : Value} {da db d : PyData} (hP : Old W s.heap) (ra : Rd W s.heap a da) (rb : Rd W s.heap b db) (hb : binP op da db = some d)
    (h : ∀ v s', Keeps s s' → Rd W s'.heap v d → Q v s') : wpAny (model prog w) A (binaryOp op a b) Q E s := by
  have go {op : Operator} {f : Int → Int → Option PyData} (hb : intsP f da db = some d) (k : ∀ i t j u, f i j = some d → wpAny (model prog w) A (binaryOp op (.int i t) (.int j u)) Q E s) : wpAny (model prog w) A (binaryOp op a b) Q E s :=
    int2 (M := fun a b => wpAny (model prog w) A (binaryOp op a b) Q E s) hb ra rb k
  cases op with
  | Add => exact add_sound hP ra rb hb h
  | Mult => exact mul_sound hP ra rb hb h
  | Sub =>
    refine go hb fun i t j u e => ?_
    cases e
    exact P.sub_int (h _ _ (keeps_toks ..) (.int ..))
  | BitAnd =>
    refine go hb fun i t j u e => ?_
    cases e
    exact and_int (h _ _ (keeps_toks ..) (.int ..))
  | FloorDiv =>
    refine go hb fun i t j u e => ?_
    have hc := only_inv e
    cases hc.2
    have q := Bool.and_eq_true_iff.mp hc.1
    exact floordiv_int (by simpa using q.1) (h _ _ (keeps_toks ..) (.int ..)) (.inl (PyProof.noPylong_small (of_decide_eq_true q.2)))
  | Mod =>
    refine go hb fun i t j u e => ?_
    have hc := only_inv e
    cases hc.2
    exact mod_int' (by simpa using hc.1) (h _ _ (keeps_toks ..) (.int ..))
  | Pow =>
    refine go hb fun i t j u e => ?_
    have hc := only_inv e
    cases hc.2
    have q := Bool.and_eq_true_iff.mp hc.1
    have q' := Bool.and_eq_true_iff.mp q.1
    exact pow_int_small (of_decide_eq_true q'.1) (of_decide_eq_true q'.2) (of_decide_eq_true q.2) (h _ _ (keeps_toks ..) (.int ..))
  | LShift =>
    refine go hb fun i t j u e => ?_
    have hc := only_inv e
    cases hc.2
    have q := Bool.and_eq_true_iff.mp hc.1
    have q' := Bool.and_eq_true_iff.mp q.1
    exact lshift_int_small (of_decide_eq_true q'.1) (of_decide_eq_true q'.2) (of_decide_eq_true q.2) (h _ _ (keeps_toks ..) (.int ..))
  | RShift =>
    refine go hb fun i t j u e => ?_
    have hc := only_inv e
    cases hc.2
    exact rshift_int (of_decide_eq_true hc.1) (h _ _ (keeps_toks ..) (.int ..))
  | _ => cases hb
end
end Mine

set_option linter.all false
namespace Mine
open PySem PySem.W PyProof.Rows

theorem str_eq_iff (x y : Str) : (x.cps.toList == y.cps.toList) = decide (x = y) := by
  obtain ⟨a⟩ := x; obtain ⟨b⟩ := y
  obtain ⟨a⟩ := a; obtain ⟨b⟩ := b
  by_cases h : a = b
  · subst h; simp
  · have : ¬ (Str.mk ⟨a⟩ = Str.mk ⟨b⟩) := fun q => h (by injection q with q; injection q)
    simp [h, this]

section
variable {prog : Program} {w : World} {A : Around} {E : Value → Shared → Prop} {s : Shared} {W : Addr → Prop} {Q : Value → Shared → Prop}

theorem ord2 {M : Value → Value → Prop} {f : Int → Int → Bool} {a b : Value} {da db : PyData} {c : Bool} (hb : ordP f da db = some c) (ra : Rd W s.heap a da) (rb : Rd W s.heap b db) (k : ∀ i t j u, f i j = c → M (.int i t) (.int j u)) : M a b :=
  bind_go hb fun i ei hb => bind_go hb fun j ej hb => int_int (intOf_inv ei ▸ ra) (intOf_inv ej ▸ rb) fun t u => k i t j u (Option.some.inj hb)
theorem notO_inv {o : Option Bool} {c : Bool} (h : notO o = some c) : ∃ b, o = some b ∧ c = !b := (Option.map_eq_some_iff.mp h).imp fun _ x => ⟨x.1, x.2.symm⟩
/-- the arms of == and != -/
theorem eq_arms {M : Value → Value → Bool → Prop} {a b : Value} {da db : PyData} {c : Bool} (ra : Rd W s.heap a da) (rb : Rd W s.heap b db) (hb : eqP da db = some c) (k1 : ∀ i t j u, M (.int i t) (.int j u) (i == j)) (k2 : ∀ i t j u, M (.str i t) (.str j u) (decide (i = j)))
    (k3 : ∀ as bs, Reads s.heap a da as → Reads s.heap b db bs → da.canLay0 = true → db.canLay0 = true → min da.depth db.depth ≤ 64 → M a b (da.eqv db)) : M a b c := by
  have g (hb : eqG da db = some c) : M a b c := by
    have hc := only_inv hb
    have q := Bool.and_eq_true_iff.mp hc.1
    have q' := Bool.and_eq_true_iff.mp q.1
    exact ra.elim fun as ra => rb.elim fun bs rb => Option.some.inj hc.2 ▸ k3 as bs ra.1 rb.1 q'.1 q'.2 (of_decide_eq_true q.2)
  unfold eqP at hb
  cases hi : intOf da with
  | some i =>
    rw [hi] at hb
    dsimp only at hb
    unfold eqI at hb
    cases hj : intOf db with
    | some j => rw [hj] at hb; exact int_int (M := fun a b => M a b c) (intOf_inv hi ▸ ra) (intOf_inv hj ▸ rb) fun t u => Option.some.inj hb ▸ k1 i t j u
    | none => rw [hj] at hb; exact g hb
  | none =>
    rw [hi] at hb
    dsimp only at hb
    cases hx : strOf da with
    | some x =>
      rw [hx] at hb
      dsimp only at hb
      unfold eqS at hb
      cases hy : strOf db with
      | some y => rw [hy] at hb; exact str_str (M := fun a b => M a b c) (strOf_inv hx ▸ ra) (strOf_inv hy ▸ rb) fun t u => Option.some.inj hb ▸ k2 x t y u
      | none => rw [hy] at hb; exact g hb
    | none => rw [hx] at hb; exact g hb
/-- the arms of in and not in -/
theorem in_arms {M : Value → Value → Bool → Prop} {a b : Value} {da db : PyData} {c : Bool} (ra : Rd W s.heap a da) (rb : Rd W s.heap b db) (hb : inP da db = some c) (k1 : ∀ i t j u, M (.str i t) (.str j u) (Txt.contains j i))
    (k2 : ∀ as bs ys, Reads s.heap a da as → Reads s.heap b (.tuple ys) bs → PyData.canLayAll0 ys = true → da.canLay0 = true → min (PyData.depthAll ys) da.depth ≤ 64 → M a b (ys.any fun y => PyData.eqv y da)) : M a b c := by
  cases db with
  | str y => exact bind_go hb fun x hx hb => str_str (M := fun a b => M a b c) (strOf_inv hx ▸ ra) rb fun t u => Option.some.inj hb ▸ k1 x t y u
  | tuple ys =>
    have hc := only_inv hb
    have q := Bool.and_eq_true_iff.mp hc.1
    have q' := Bool.and_eq_true_iff.mp q.1
    exact ra.elim fun as ra => rb.elim fun bs rb => Option.some.inj hc.2 ▸ k2 as bs ys ra.1 rb.1 q'.1 q'.2 (of_decide_eq_true q.2)
  | _ => cases hb
theorem none_is {h : Heap} {v : Value} {d : PyData} {as : List Addr} (r : Reads h v d as) : plainIs v .none = true ∧ (v == Value.none) = isNone d :=
  r.casesOn (motive_1 := fun v d as _ => plainIs v .none = true ∧ (v == Value.none) = isNone d) ⟨rfl, rfl⟩ (fun _ => ⟨rfl, rfl⟩) (fun _ t => ⟨rfl, rfl⟩) (fun _ t => ⟨rfl, rfl⟩) (fun _ _ _ _ => ⟨rfl, rfl⟩) (fun h1 h2 h3 h4 => ⟨rfl, rfl⟩) fun _ _ _ _ _ => ⟨rfl, rfl⟩
theorem isNone_inv {d : PyData} (h : isNone d = true) : d = .none := by
  cases d with
  | none => rfl
  | _ => cases h
theorem is_arms {M : Value → Bool → Prop} {a b : Value} {da db : PyData} {c : Bool} (ra : Rd W s.heap a da) (rb : Rd W s.heap b db) (hb : isP da db = some c) (k : plainIs a .none = true → M .none (a == .none)) : M b c := by
  have hc := only_inv hb
  have e := Rd.none_inv (isNone_inv hc.1 ▸ rb)
  subst e
  exact ra.elim fun as ra => Option.some.inj hc.2 ▸ (none_is ra.1).2 ▸ k (none_is ra.1).1

theorem cmp_sound {op : CmpOp} {a b : Value} {da db : PyData} {c : Bool} (hU : A.units + 100 < cLine) (ra : Rd W s.heap a da) (rb : Rd W s.heap b db) (hb : cmpP op da db = some c)
    (h : ∀ s', Keeps s s' → Q (.bool c) s') : wpAny (model prog w) A (compareOp op a b) Q E s := by
  have h0 := h s (keeps_refl s)
  cases op with
  | Lt => exact ord2 (M := fun a b => wpAny _ _ (compareOp _ a b) _ _ _) hb ra rb fun i t j u e => by subst e; exact P.lt_int h0
  | LtE => exact ord2 (M := fun a b => wpAny _ _ (compareOp _ a b) _ _ _) hb ra rb fun i t j u e => by subst e; exact P.le_int h0
  | Gt => exact ord2 (M := fun a b => wpAny _ _ (compareOp _ a b) _ _ _) hb ra rb fun i t j u e => by subst e; exact P.gt_int h0
  | GtE => exact ord2 (M := fun a b => wpAny _ _ (compareOp _ a b) _ _ _) hb ra rb fun i t j u e => by subst e; exact P.ge_int h0
  | Eq => exact eq_arms (M := fun a b c => Q (.bool c) s → wpAny _ _ (compareOp _ a b) _ _ _) ra rb hb (fun i t j u h => P.eq_int h) (fun i t j u h => P.eq_str (by rw [str_eq_iff]; exact h)) (fun as bs r1 r2 c1 c2 c3 h => SeqAt.compareEq_reads r1 r2 c1 c2 (by lia) h) h0
  | NotEq =>
    obtain ⟨c', hb', rfl⟩ := notO_inv (o := eqP da db) hb
    exact eq_arms (M := fun a b c => Q (.bool (!c)) s → wpAny _ _ (compareOp _ a b) _ _ _) ra rb hb' (fun i t j u h => P.ne_int h) (fun i t j u h => P.ne_str (by rw [bne, str_eq_iff]; exact h)) (fun as bs r1 r2 c1 c2 c3 h => SeqAt.compareNe_reads r1 r2 c1 c2 (by lia) h) h0
  | In => exact in_arms (M := fun a b c => Q (.bool c) s → wpAny _ _ (compareOp _ a b) _ _ _) ra rb hb (fun i t j u h => SB.contains h) (fun as bs ys r1 r2 c1 c2 c3 h => SeqAt.in_tuple_reads r2 r1 c1 c2 (by lia) h) h0
  | NotIn =>
    obtain ⟨c', hb', rfl⟩ := notO_inv (o := inP da db) hb
    exact in_arms (M := fun a b c => Q (.bool (!c)) s → wpAny _ _ (compareOp _ a b) _ _ _) ra rb hb' (fun i t j u h => SB.notContains h) (fun as bs ys r1 r2 c1 c2 c3 h => SeqAt.notIn_tuple_reads r2 r1 c1 c2 (by lia) h) h0
  | Is => exact is_arms (M := fun b c => Q (.bool c) s → wpAny _ _ (compareOp _ a b) _ _ _) ra rb hb (fun p h => wpAny_is_plain p h) h0
  | IsNot =>
    obtain ⟨c', hb', rfl⟩ := notO_inv (o := isP da db) hb
    exact is_arms (M := fun b c => Q (.bool (!c)) s → wpAny _ _ (compareOp _ a b) _ _ _) ra rb hb' (fun p h => wpAny_isNot_plain p h) h0
end
end Mine

set_option linter.all false
namespace Mine
open PySem PySem.W PyProof.Rows

section
variable {prog : Program} {w : World} {A : Around} {E : Value → Shared → Prop} {s : Shared} {W : Addr → Prop} {Q : Value → Shared → Prop} {env : Env}

theorem subscripted_any {slice : Expr} {o i : Value} (h : wpAny (model prog w) A (getItem o i) Q E s) : wpAny (model prog w) A (subscripted slice false o i) Q E s := by
  cases slice with
  | Slice a b st q => cases st <;> exact wpAny_operating h
  | _ => exact wpAny_operating h

theorem Subscript_any {value slice : Expr} {pos : Pos}
    (h : wpAny (model prog w) A (eval value env) (fun o s₁ => wpAny (model prog w) A (eval slice env) (fun i s₂ => ∃ T id, typeLookup (.type T) "__getitem__" = pure (some (.builtin id)) ∧ s₂.TypeIs o T ∧ wpAny (model prog w) A (getItem o i) Q E s₂) E s₁) E s) :
    wpAny (model prog w) A (eval (.Subscript value slice pos) env) Q E s := by
  rw [eval_Subscript]
  refine wpAny_bind (wpAny_mono h (fun o s₁ h₁ => wpAny_bind (wpAny_holding (wpAny_mono h₁ (fun i s₂ h₂ => wpAny_bind (wpAny_standAt ?_)) fun _ _ x => x))) fun _ _ x => x)
  obtain ⟨T, id, hl, hT, h₂⟩ := h₂
  refine wpAny_bind ?_
  rw [getitemInPython_of_ne hT.not_modules]
  refine wpAny_bind (wpAny_specialOf hT hl ?_)
  refine wpAny_pure (wpAny_bind (subscripted_any (wpAny_mono h₂ (fun r s₃ h₃ => ?_) fun _ _ x => x)))
  exact wpAny_bind (wpAny_letTemporaryGo (wpAny_pure h₃))

theorem look_type {W : Addr → Prop} {v : Value} {d e : PyData} {k : Value} (_ : Rd W s.heap k e) (ra : Rd W s.heap v d) (h : d = .str x ∨ (∃ xs, d = .list xs) ∨ ∃ xs, d = .tuple xs) : ∃ T id, typeLookup (.type T) "__getitem__" = pure (some (.builtin id)) ∧ s.TypeIs v T := by
  rcases h with rfl | ⟨xs, rfl⟩ | ⟨xs, rfl⟩
  · obtain ⟨t, rfl⟩ := ra.str_inv
    exact ⟨"str", _, F.slot_str_getitem.lookup, typeIs_str _ _ _⟩
  · obtain ⟨a, items, rfl, ⟨o, ho, hc, _⟩, _⟩ := ra.list_inv
    exact ⟨"list", _, slot_list_getitem.lookup, o, ho, hc⟩
  · obtain ⟨a, items, rfl, ⟨o, ho, hc, _⟩, _⟩ := ra.tuple_inv
    exact ⟨"tuple", _, slot_tuple_getitem.lookup, o, ho, hc⟩

theorem seqIndex_spec {i : Int} {n k : Nat} (h : seqIndex? i n = some k) : (0 ≤ i ∧ k = i.toNat ∧ i < n) ∨ (i < 0 ∧ -(n : Int) ≤ i ∧ k = (i + n).toNat) := by
  unfold seqIndex? at h
  by_cases hi : i < 0
  · simp only [hi, if_true] at h
    split at h
    · rename_i hc
      simp only [Bool.and_eq_true, decide_eq_true_eq] at hc
      cases h
      exact .inr ⟨hi, by omega, rfl⟩
    · cases h
  · simp only [hi, if_false] at h
    split at h
    · rename_i hc
      simp only [Bool.and_eq_true, decide_eq_true_eq] at hc
      cases h
      exact .inl ⟨by omega, rfl, hc.2⟩
    · cases h

theorem seqAt_inv {xs : List PyData} {i : Int} {r : PyData} (h : seqAt xs i = some r) : -(2 ^ 63) ≤ i ∧ i < 2 ^ 63 ∧ ∃ j, seqIndex? i xs.length = some j ∧ xs[j]? = some r :=
  have hc := only_inv h
  have q := Bool.and_eq_true_iff.mp hc.1
  ⟨of_decide_eq_true q.1, of_decide_eq_true q.2, bind_inv hc.2⟩
theorem sub_sound {o k : Value} {d e r : PyData} (ra : Rd W s.heap o d) (rb : Rd W s.heap k e) (hb : subP d e = some r)
    (h : ∀ v s', Keeps s s' → Rd W s'.heap v r → Q v s') : ∃ T id, typeLookup (.type T) "__getitem__" = pure (some (.builtin id)) ∧ s.TypeIs o T ∧ wpAny (model prog w) A (getItem o k) Q E s := by
  refine Classical.byContradiction fun hn => ?_
  cases d with
  | str x =>
    refine bind_go hb fun i ei hb => ?_
    have hc := only_inv hb
    cases hc.2
    have q := Bool.and_eq_true_iff.mp hc.1
    obtain ⟨t, rfl⟩ := ra.str_inv; obtain ⟨u, rfl⟩ := Rd.int_inv (intOf_inv ei ▸ rb)
    exact hn ⟨"str", _, F.slot_str_getitem.lookup, typeIs_str _ _ _, SB.getItem q.1 q.2 (h _ _ (keeps_toks ..) (.str ..))⟩
  | list xs =>
    refine bind_go hb fun i ei hb => ?_
    obtain ⟨h1, h2, j, hj, hr⟩ := seqAt_inv hb
    obtain ⟨u, rfl⟩ := Rd.int_inv (intOf_inv ei ▸ rb)
    obtain ⟨a, items, rfl, hl, rl, _⟩ := ra.list_inv
    obtain ⟨v, hv, rv⟩ := rl.at hr
    have hlen := rl.length
    rw [Array.getElem?_toList] at hv
    refine hn ⟨"list", _, slot_list_getitem.lookup, hl.imp fun _ x => ⟨x.1, x.2.1⟩, (seqIndex_spec hj).elim (fun z => ?_) fun z => ?_⟩
    · exact wpAny_getItem_list hl z.1 h2 (z.2.1 ▸ hv) (h _ _ (keeps_refl _) rv)
    · rw [← hlen] at z
      exact wpAny_getItem_list_neg hl z.1 z.2.1 h1 (z.2.2 ▸ hv) (h _ _ (keeps_refl _) rv)
  | tuple xs =>
    refine bind_go hb fun i ei hb => ?_
    obtain ⟨h1, h2, j, hj, hr⟩ := seqAt_inv hb
    obtain ⟨u, rfl⟩ := Rd.int_inv (intOf_inv ei ▸ rb)
    obtain ⟨a, items, rfl, hl, rl⟩ := ra.tuple_inv
    obtain ⟨v, hv, rv⟩ := rl.at hr
    have hlen := rl.length
    rw [Array.getElem?_toList] at hv
    exact hn ⟨"tuple", _, slot_tuple_getitem.lookup, hl.imp fun _ x => ⟨x.1, x.2.1⟩, PyProof.Rows.getItem_tuple hl h1 h2 (by rw [← hlen] at hj; exact hj) hv (h _ _ (keeps_refl _) rv)⟩
  | _ => cases hb

theorem part_value {v : Value} {i : Option Int} (p : IsPart v i) : ∃ q : Option (Int × Tok), v = partValue q ∧ q.map (·.1) = i := by
  cases p with
  | none => exact ⟨none, rfl, rfl⟩
  | int i t => exact ⟨some (i, t), rfl, rfl⟩

theorem strPick_le (lo hi : Option Int) (st : Int) (n : Nat) : (Builtin.Str.strSliceIndices lo hi st n).length ≤ n := by
  unfold Builtin.Str.strSliceIndices
  refine sliceRange_length_le _ _ _ _ (fun hc => ?_) fun hc => ?_
  · simp only [hc, if_true]
    constructor
    · cases lo with
      | none => simp
      | some i => dsimp only; omega
    · cases hi with
      | none => simp
      | some i => dsimp only; omega
  · simp only [hc, if_false]
    constructor
    · cases lo with
      | none => simp
      | some i => dsimp only; omega
    · cases hi with
      | none => simp
      | some i => dsimp only; omega

theorem rds_pick {h : Heap} {vs : List Value} {ds : List PyData} (r : Rds W h vs ds) : ∀ idx : List Nat, Rds W h (idx.filterMap (vs[·]?)) (idx.filterMap (ds[·]?))
  | [] => .nil
  | k :: idx => by
    have ih := rds_pick r idx
    cases hd : ds[k]? with
    | none =>
      have hv : vs[k]? = none := by
        rw [List.getElem?_eq_none_iff] at hd ⊢
        rw [r.length]; exact hd
      rw [List.filterMap_cons_none hd, List.filterMap_cons_none hv]
      exact ih
    | some d =>
      obtain ⟨v, hv, rv⟩ := r.at hd
      rw [List.filterMap_cons_some hd, List.filterMap_cons_some hv]
      exact .cons rv ih

theorem slice_sound {o vl vu vt : Value} {d r : PyData} {lo hi st : Option Int} (hP : Old W s.heap) (ra : Rd W s.heap o d) (pl : IsPart vl lo) (pu : IsPart vu hi) (pt : IsPart vt st) (hb : sliceP d lo hi st = some r)
    (h : ∀ v s', Keeps s s' → Rd W s'.heap v r → Q v s') :
    let s₃ : Shared := { s with heap := s.heap.push { cls := .type "slice", data := .fields #[vl, vu, vt] } }
    ∃ T id, typeLookup (.type T) "__getitem__" = pure (some (.builtin id)) ∧ s₃.TypeIs o T ∧ wpAny (model prog w) A (getItem o (.ref s.heap.objs.size)) Q E s₃ := by
  intro s₃
  refine Classical.byContradiction fun hn => ?_
  cases d with
  | str x =>
    have hc := only_inv hb
    cases hc.2
    have q := Bool.and_eq_true_iff.mp hc.1
    obtain ⟨t, rfl⟩ := ra.str_inv
    obtain ⟨ql, rfl, rfl⟩ := part_value pl
    obtain ⟨qu, rfl, rfl⟩ := part_value pu
    obtain ⟨qt, rfl, rfl⟩ := part_value pt
    refine hn ⟨"str", _, F.slot_str_getitem.lookup, typeIs_str _ _ _, wpAny_getItem_str_slice (l := ql) (u := qu) (st := qt) ⟨_, Heap.get?_push_size _ rfl, rfl, rfl⟩ (Bool.not_eq_true' _ ▸ q.1) ?_⟩
    unfold sliceMade
    refine post_val_or_made (fun _ => ?_) fun t' k => h _ _ (keeps_push' ..) (.str ..)
    show (List.filterMap _ _).toArray.size ≤ _
    rw [List.size_toArray]
    exact Nat.le_trans (List.length_filterMap_le _ _) (Nat.le_trans (strPick_le _ _ _ _) (of_decide_eq_true q.2))
  | list xs =>
    have hc := only_inv hb
    cases hc.2
    have q := Bool.and_eq_true_iff.mp hc.1
    obtain ⟨a, items, rfl, hl, rl, _⟩ := ra.list_inv
    have hl₃ : s₃.heap.IsList a items := hl.imp fun o x => ⟨Heap.get?_push_of_some _ x.1, x.2⟩
    have hlen : items.size = xs.length := rl.length
    refine hn ⟨"list", _, slot_list_getitem.lookup, hl₃.imp fun _ x => ⟨x.1, x.2.1⟩, wpAny_getItem_list_slice hl₃ (Heap.IsSliceOf.new ..) pl pu pt (of_decide_eq_true q.1) (h _ _ ?_ ?_) (Nat.le_trans (Nat.le_of_eq hlen) (of_decide_eq_true q.2))⟩
    · exact keeps_trans (keeps_push s _) (keeps_push s₃ _)
    · refine Rd.list (isList_push _) ?_ fun q => ?_
      · show Rds W _ (slicePick items _ _ _).toList (lstSlice _ _ _ _)
        unfold slicePick lstSlice
        rw [← hlen]
        have e : (fun (x : Nat) => items[x]?) = fun x => items.toList[x]? := by funext x; rw [Array.getElem?_toList]
        show Rds W _ (List.filterMap (fun x => items[x]?) _) _
        rw [e]
        exact rds_pick (rl.exact (keeps_trans (keeps_push s _) (keeps_push s₃ _))) _
      · have e : s₃.heap.objs.size = s.heap.objs.size + 1 := Heap.size_push ..
        exact Nat.lt_irrefl _ (Nat.lt_trans (Nat.lt_of_lt_of_eq (Nat.lt_succ_self _) e.symm) (hP _ q))
  | _ => cases hb
end
end Mine

set_option linter.all false
namespace Mine
open PySem PySem.W PyProof.Rows

noncomputable def bootv (f : Str) : Value := match f == ("str" : Str) with
  | true => .type "str"
  | false => match f == ("len" : Str) with
    | true => .builtin "len"
    | false => match f == ("ord" : Str) with
      | true => .builtin "ord"
      | false => match f == ("abs" : Str) with
        | true => .builtin "abs"
        | false => match f == ("sum" : Str) with
          | true => .builtin "sum"
          | false => match f == ("max" : Str) with
            | true => .builtin "max"
            | false => match f == ("min" : Str) with
              | true => .builtin "min"
              | false => .none

section
variable {prog : Program} {w : World} {A : Around} {E : Value → Shared → Prop} {s : Shared} {W : Addr → Prop} {Q : Value → Shared → Prop} {env : Env}

theorem rds_cons {h : Heap} {vs : List Value} {d : PyData} {ds : List PyData} (r : Rds W h vs (d :: ds)) : ∃ v us, vs = v :: us ∧ Rd W h v d ∧ Rds W h us ds :=
  r.elim fun as r => (show ∀ {ds' as}, ReadsAll h vs ds' as → ds' = d :: ds → (∀ a ∈ as, ¬ W a) → ∃ v us, vs = v :: us ∧ Rd W h v d ∧ Rds W h us ds from fun r => r.casesOn (motive_2 := fun vs ds' as _ => ds' = d :: ds → (∀ a ∈ as, ¬ W a) → ∃ v us, vs = v :: us ∧ Rd W h v d ∧ Rds W h us ds) (fun e => by cases e) fun h1 h2 e n => by
    cases e
    exact ⟨_, _, rfl, ⟨_, h1, fun a m => n a (List.mem_append_left _ m)⟩, _, h2, fun a m => n a (List.mem_append_right _ m)⟩) r.1 rfl r.2
theorem rds_nil {h : Heap} {vs : List Value} (r : Rds W h vs []) : vs = [] := List.eq_nil_of_length_eq_zero r.length
theorem rds_one {h : Heap} {vs : List Value} {d : PyData} (r : Rds W h vs [d]) : ∃ v, vs = [v] ∧ Rd W h v d := (rds_cons r).elim fun v x => x.elim fun us x => ⟨v, by rw [x.1, rds_nil x.2.2], x.2.1⟩
theorem rds_two {h : Heap} {vs : List Value} {d e : PyData} (r : Rds W h vs [d, e]) : ∃ v u, vs = [v, u] ∧ Rd W h v d ∧ Rd W h u e := (rds_cons r).elim fun v x => x.elim fun us x => (rds_one x.2.2).elim fun u y => ⟨v, u, by rw [x.1, y.1], x.2.1, y.2⟩
theorem rds_ints {h : Heap} {ds : List PyData} : ∀ {vs : List Value} {ns : List Int}, Rds W h vs ds → intsOf ds = some ns → ∃ xs : List (Int × Tok), vs = xs.map (fun p => Value.int p.1 p.2) ∧ xs.map (·.1) = ns := by
  induction ds with
  | nil => exact fun r e => ⟨[], rds_nil r, Option.some.inj e⟩
  | cons d ds ih =>
    intro vs ns r e
    obtain ⟨v, us, rfl, rv, ru⟩ := rds_cons r
    refine bind_go e fun i ei e => bind_go e fun l el e => (ih ru el).elim fun xs x => (Rd.int_inv (intOf_inv ei ▸ rv)).elim fun t ht => ⟨(i, t) :: xs, ?_, ?_⟩
    · rw [x.1, ht]; rfl
    · exact (congrArg (i :: ·) x.2).trans (Option.some.inj e)
theorem rds_strs {h : Heap} {ds : List PyData} : ∀ {vs : List Value} {zs : List Str}, Rds W h vs ds → strsOf ds = some zs → ∃ l : List (Str × Tok), vs = strValues l ∧ l.map (·.1) = zs := by
  induction ds with
  | nil => exact fun r e => ⟨[], rds_nil r, Option.some.inj e⟩
  | cons d ds ih =>
    intro vs ns r e
    obtain ⟨v, us, rfl, rv, ru⟩ := rds_cons r
    refine bind_go e fun i ei e => bind_go e fun l el e => (ih ru el).elim fun xs x => (Rd.str_inv (strOf_inv ei ▸ rv)).elim fun t ht => ⟨(i, t) :: xs, ?_, ?_⟩
    · rw [x.1, ht]; rfl
    · exact (congrArg (i :: ·) x.2).trans (Option.some.inj e)

theorem len_sound {v : Value} {a d : PyData} (ra : Rd W s.heap v a) (hb : lenP a = some d) (h : ∀ v s', Keeps s s' → Rd W s'.heap v d → Q v s') : wpAny (model prog w) A (call (.builtin "len") [v]) Q E s := by
  refine Classical.byContradiction fun hn => ?_
  cases a with
  | str x =>
    have hc := only_inv hb
    cases hc.2
    obtain ⟨t, rfl⟩ := ra.str_inv
    have hz := of_decide_eq_true hc.1
    rw [sizeLine_eq] at hz
    exact hn (P.len_str (by lia) (h _ _ (keeps_toks ..) (.int ..)))
  | list x =>
    have hc := only_inv hb
    cases hc.2
    obtain ⟨a, items, rfl, hl, rl, _⟩ := ra.list_inv
    have hlen : items.size = x.length := rl.length
    have hz := of_decide_eq_true hc.1
    rw [sizeLine_eq, ← hlen] at hz
    exact hn (Calls.call_len_list hl (by lia) (h _ _ (keeps_toks ..) (hlen ▸ Rd.int ..)))
  | _ => cases hb
theorem ord_sound {v : Value} {a d : PyData} (ra : Rd W s.heap v a) (hb : ordC a = some d) (h : ∀ v s', Keeps s s' → Rd W s'.heap v d → Q v s') : wpAny (model prog w) A (call (.builtin "ord") [v]) Q E s := by
  refine Classical.byContradiction fun hn => bind_go hb fun x hx hb => ?_
  have hc := only_inv hb
  cases hc.2
  obtain ⟨t, rfl⟩ := Rd.str_inv (strOf_inv hx ▸ ra)
  obtain ⟨⟨l⟩⟩ := x
  obtain ⟨c, rfl⟩ := List.length_eq_one_iff.mp (of_decide_eq_true hc.1)
  exact hn (P.ord_of_char (h _ _ (keeps_toks ..) (.int ..)))
theorem sum_sound {v : Value} {a d : PyData} (hh : A.handled = none) (ra : Rd W s.heap v a) (hb : sumP a = some d) (h : ∀ v s', Keeps s s' → Rd W s'.heap v d → Q v s') : wpAny (model prog w) A (call (.builtin "sum") [v]) Q E s := by
  refine Classical.byContradiction fun hn => bind_go hb fun xs hx hb => bind_go hb fun ns hns hb => ?_
  have hc := only_inv hb
  cases hc.2
  obtain ⟨a, items, rfl, hl, rl, _⟩ := Rd.list_inv (lstOf_inv hx ▸ ra)
  obtain ⟨xs, hx, rfl⟩ := rds_ints rl hns
  have e : items = intItems xs.toArray := Array.toList_inj.mp (by rw [hx]; simp [intItems])
  subst e
  refine hn (sum_intListG hh hl fun h' tk t' hk => ?_)
  rw [preSum_eq, List.take_of_length_le (by simp)]
  simpa [intItems] using h _ _ ⟨h', tk, rfl, hk⟩ (Rd.int ((xs.map (·.1)).sum) t')
theorem blt1_sound {f : Str} {v : Value} {a d : PyData} (hh : A.handled = none) (ra : Rd W s.heap v a) (hb : blt1 f a = some d) (h : ∀ v s', Keeps s s' → Rd W s'.heap v d → Q v s') : wpAny (model prog w) A (call (bootv f) [v]) Q E s := by
  unfold blt1 at hb
  cases h1 : f == ("len" : Str) with
  | true => rw [h1] at hb; rw [eq_of_beq h1]; exact len_sound ra hb h
  | false =>
  rw [h1] at hb
  cases h2 : f == ("str" : Str) with
  | true =>
    rw [h2] at hb
    rw [eq_of_beq h2]
    refine bind_go hb fun i hi hb => ?_
    have hc := only_inv hb
    cases hc.2
    obtain ⟨t, rfl⟩ := Rd.int_inv (intOf_inv hi ▸ ra)
    exact P.str_of_int (of_decide_eq_true hc.1) (h _ _ (keeps_toks ..) (.str ..))
  | false =>
  rw [h2] at hb
  cases h3 : f == ("ord" : Str) with
  | true => rw [h3] at hb; rw [eq_of_beq h3]; exact ord_sound ra hb h
  | false =>
  rw [h3] at hb
  cases h4 : f == ("abs" : Str) with
  | true =>
    rw [h4] at hb
    rw [eq_of_beq h4]
    refine bind_go hb fun i hi hb => ?_
    cases hb
    obtain ⟨t, rfl⟩ := Rd.int_inv (intOf_inv hi ▸ ra)
    exact call_abs_int fun u tk => h _ _ (keeps_toks ..) (.int ..)
  | false =>
    rw [h4] at hb
    have hc := only_inv hb
    rw [eq_of_beq hc.1]
    exact sum_sound hh ra hc.2 h
theorem pick_ite {P : Value → Prop} {c : Prop} [Decidable c] {i j : Int} {t t' : Tok} (x : c → P (.int j t')) (y : ¬ c → P (.int i t)) : P (if c then .int j t' else .int i t) := by
  by_cases hc : c
  · rw [if_pos hc]; exact x hc
  · rw [if_neg hc]; exact y hc
theorem blt2_sound {f : Str} {v u : Value} {a b d : PyData} (hh : A.handled = none) (ra : Rd W s.heap v a) (rb : Rd W s.heap u b) (hb : blt2 f a b = some d) (h : ∀ v s', Keeps s s' → Rd W s'.heap v d → Q v s') : wpAny (model prog w) A (call (bootv f) [v, u]) Q E s := by
  unfold blt2 at hb
  cases h1 : f == ("max" : Str) with
  | true =>
    rw [h1] at hb
    rw [eq_of_beq h1]
    refine int2 (M := fun v u => wpAny (model prog w) A (call (bootv "max") [v, u]) Q E s) hb ra rb fun i t j t' e => ?_
    cases e
    exact max_two_ints hh fun h' tk hk => pick_ite (P := fun v => Q v _) (fun hc => h _ _ ⟨h', tk, rfl, hk⟩ (by rw [if_pos hc]; exact Rd.int ..)) fun hc => h _ _ ⟨h', tk, rfl, hk⟩ (by rw [if_neg hc]; exact Rd.int ..)
  | false =>
    rw [h1] at hb
    have hc := only_inv hb
    rw [eq_of_beq hc.1]
    refine int2 (M := fun v u => wpAny (model prog w) A (call (bootv "min") [v, u]) Q E s) hc.2 ra rb fun i t j t' e => ?_
    cases e
    exact min_two_ints hh fun h' tk hk => pick_ite (P := fun v => Q v _) (fun hc => h _ _ ⟨h', tk, rfl, hk⟩ (by rw [if_pos hc]; exact Rd.int ..)) fun hc => h _ _ ⟨h', tk, rfl, hk⟩ (by rw [if_neg hc]; exact Rd.int ..)
theorem builtin_sound {f : Str} {vs : List Value} {ds : List PyData} {d : PyData} (hh : A.handled = none) (r : Rds W s.heap vs ds) (hb : builtinP f ds = some d) (h : ∀ v s', Keeps s s' → Rd W s'.heap v d → Q v s') :
    wpAny (model prog w) A (call (bootv f) vs) Q E s := by
  unfold builtinP at hb
  cases h1 : one ds with
  | some a =>
    rw [h1] at hb
    obtain ⟨v, rfl, ra⟩ := rds_one (one_inv h1 ▸ r)
    exact blt1_sound hh ra hb h
  | none =>
    rw [h1] at hb
    refine bind_go hb fun ab h2 hb => ?_
    obtain ⟨v, u, rfl, ra, rb⟩ := rds_two (two_inv h2 ▸ r)
    exact blt2_sound hh ra rb hb h

/-- a method of a str; the arguments' evaluation is done by t -/
theorem method_sound0 {o : Value} {d r : PyData} {m : Str} {pos : Pos} (ro : Rd W s.heap o d) (hb : methodP d m [] = some r) (h : ∀ v s', Keeps s s' → Rd W s'.heap v r → Q v s') : MethodOnS prog w A E m o pos [] Q s := by
  refine bind_go hb fun x hx hb => ?_
  obtain ⟨t, rfl⟩ := Rd.str_inv (strOf_inv hx ▸ ro)
  unfold methS at hb
  cases h1 : m == ("startswith" : Str) with
  | true => rw [h1] at hb; cases hb
  | false =>
  rw [h1] at hb
  cases h2 : m == ("index" : Str) with
  | true => rw [h2] at hb; cases hb
  | false =>
  rw [h2] at hb
  cases h3 : m == ("lower" : Str) with
  | true =>
    rw [h3] at hb
    have hc := only_inv (c := !Builtin.Str.tooLong (Txt.lower x).length) hb
    cases hc.2
    rw [eq_of_beq h3]
    exact SB.lower (by simpa using hc.1) (h _ _ (keeps_toks ..) (.str ..))
  | false =>
  rw [h3] at hb
  cases h4 : m == ("upper" : Str) with
  | true =>
    rw [h4] at hb
    have hc := only_inv (c := !Builtin.Str.tooLong (Txt.upper x).length) hb
    cases hc.2
    rw [eq_of_beq h4]
    exact SB.upper (by simpa using hc.1) (h _ _ (keeps_toks ..) (.str ..))
  | false =>
  rw [h4] at hb
  cases h5 : m == ("isupper" : Str) with
  | true =>
    rw [h5] at hb
    cases hb
    rw [eq_of_beq h5]
    exact SB.isupper (h _ _ (keeps_refl _) (.bool ..))
  | false =>
    rw [h5] at hb
    cases (only_inv hb).2

/-- what a method of one argument does with it -/
theorem method_sound1 {o : Value} {d : PyData} {m : Str} {pos : Pos} {t : Sem Value} {f : PyData → Option PyData} (hf : ∀ e, f e = methodP d m [e]) (ro : Rd W s.heap o d)
    (hm : m = ("startswith" : Str) ∨ m = ("index" : Str) ∨ m = ("join" : Str)) (hd : ∃ x, d = .str x)
    (h : wpAny (model prog w) A t (fun v s₁ => ∃ e r, Rd W s₁.heap v e ∧ f e = some r ∧ ∀ u s', Keeps s₁ s' → Rd W s'.heap u r → Q u s') E s) : MethodOnS prog w A E m o pos [(false, t)] Q s := by
  obtain ⟨x, rfl⟩ := hd
  obtain ⟨tk, rfl⟩ := ro.str_inv
  obtain rfl := funext hf
  rcases hm with rfl | rfl | rfl
  · refine SB.startswith (wpAny_mono h (fun v s₁ h₁ => ?_) fun _ _ e => e)
    obtain ⟨e, r, re, hr, hq⟩ := h₁
    refine bind_go (show (strOf e).bind _ = some r from hr) fun y hy hr => ?_
    cases hr
    obtain ⟨u, rfl⟩ := Rd.str_inv (strOf_inv hy ▸ re)
    exact ⟨_, _, rfl, hq _ _ (keeps_refl _) (.bool ..)⟩
  · refine SB.index (wpAny_mono h (fun v s₁ h₁ => ?_) fun _ _ e => e)
    obtain ⟨e, r, re, hr, hq⟩ := h₁
    refine bind_go (show (strOf e).bind _ = some r from hr) fun y hy hr => bind_go hr fun i hi hr => ?_
    cases hr
    obtain ⟨u, rfl⟩ := Rd.str_inv (strOf_inv hy ▸ re)
    obtain ⟨rest, ho⟩ := List.head?_eq_some_iff.mp hi
    exact ⟨_, _, rfl, i, rest, ho, hq _ _ (keeps_toks ..) (.int ..)⟩
  · refine SB.join (wpAny_mono h (fun v s₁ h₁ => ?_) fun _ _ e => e)
    obtain ⟨e, r, re, hr, hq⟩ := h₁
    refine bind_go (show (lstOf e).bind _ = some r from hr) fun y hy hr => bind_go hr fun zs hz hr => ?_
    have hc := only_inv hr
    cases hc.2
    obtain ⟨a, items, rfl, hl, rl, _⟩ := Rd.list_inv (lstOf_inv hy ▸ re)
    obtain ⟨l, hi, rfl⟩ := rds_strs rl hz
    have e : items = (strValues l).toArray := Array.toList_inj.mp hi
    subst e
    exact ⟨a, l, rfl, hl, _, rfl, hc.1, fun t' k => hq _ _ (keeps_toks ..) (.str ..)⟩
end
end Mine

namespace Mine
open PySem PySem.W PyProof.Rows

noncomputable def pens (pa : Option Addr) : Addr → Prop := fun b => pa = some b
noncomputable def PenAt (H0 : Heap) : Option Addr → Option Int → Heap → Prop
  | none, none, _ => True
  | some a, some n, h => (∃ t, h.IsList a #[.int n t]) ∧ H0.get? a = none
  | _, _, _ => False
theorem PenAt.old {H0 : Heap} {pa : Option Addr} {p : Option Int} {h : Heap} (x : PenAt H0 pa p h) : Old (pens pa) h := by
  intro b hb
  unfold pens at hb; subst hb
  cases p with
  | none => exact x.elim
  | some n => obtain ⟨⟨t, o, ho, _⟩, _⟩ := x; exact Heap.lt_size ho
theorem isList_exact {h h' : Heap} {a : Addr} {items : Array Value} (l : h.IsList a items) (k : ∀ b o, h.get? b = some o → h'.get? b = some o) : h'.IsList a items :=
  let ⟨o, ho, r⟩ := l; ⟨o, k _ _ ho, r⟩
theorem PenAt.exact {H0 : Heap} {pa : Option Addr} {p : Option Int} {s s' : Shared} (x : PenAt H0 pa p s.heap) (k : Keeps s s') : PenAt H0 pa p s'.heap := by
  match pa, p, x with
  | none, none, _ => trivial
  | some a, some n, ⟨⟨t, l⟩, e⟩ => exact ⟨⟨t, isList_exact l (keeps_exact k)⟩, e⟩

structure Glo (H0 : Heap) (mg mb : Str → Option Value) : Prop where
  g : H0.Ns mainGlobals mg
  b : H0.Ns builtinsNs mb
  lim : H0.NoLimit
  boot : ∀ f ∈ (["len", "str", "ord", "abs", "max", "min", "sum", "range", "list", "enumerate"] : List Str), mg f = none ∧ mb f = bootBuiltins f

structure IsR (H0 : Heap) (pa : Option Addr) (R : Shared → Shared → Prop) : Prop where
  keeps : ∀ {s s'}, Keeps s s' → R s s'
  trans : ∀ {a b c}, R a b → R b c → R a c
  keepS : ∀ {s s'}, R s s' → KeepS (pens pa) s.heap s'.heap
  stays : ∀ {s s'}, R s s' → H0.StaysIn s.heap → H0.StaysIn s'.heap

/-- the change that a frame's term may bring -/
noncomputable def RN (H0 : Heap) (pa : Option Addr) (s s' : Shared) : Prop := ∃ h' tk, s' = { s with heap := h', toks := tk } ∧ KeepS (pens pa) s.heap h' ∧ (H0.StaysIn s.heap → H0.StaysIn h')
theorem isR_RN (H0 : Heap) (pa : Option Addr) : IsR H0 pa (RN H0 pa) where
  keeps := fun ⟨h, t, e, k⟩ => ⟨h, t, e, .of_exact k, fun st b o q => k b o (st b o q)⟩
  trans := by
    rintro a b c ⟨h, t, rfl, k, st⟩ ⟨h', t', rfl, k', st'⟩
    exact ⟨h', t', rfl, k.trans k' fun _ p _ => p, fun x => st' (st x)⟩
  keepS := by rintro s s' ⟨h, t, rfl, k, _⟩; exact k
  stays := by rintro s s' ⟨h, t, rfl, _, st⟩; exact st
theorem isR_quiet (H0 : Heap) : IsR H0 none Keeps where
  keeps := id
  trans := keeps_trans
  keepS := keeps_keepS
  stays := fun k st b o q => keeps_exact k b o (st b o q)

noncomputable def Ow (oa : Str → Addr) (pa : Option Addr) (ρ : Loc) : Addr → Prop := fun b => pa = some b ∨ ∃ x xs, look ρ x = some (.own xs) ∧ oa x = b

noncomputable def NmOK (env : Env) (oa : Str → Addr) (pa : Option Addr) (W : Addr → Prop) (m : Str → Option Value) (h : Heap) (x : Str) : LV → Prop
  | .val d => env.kindOf x = some .local ∧ ∃ v, m x = some v ∧ Rd W h v d
  | .own xs => env.kindOf x = some .local ∧ m x = some (.ref (oa x)) ∧ (∃ items, h.IsList (oa x) items ∧ Rds (fun _ => True) h items.toList xs) ∧ pa ≠ some (oa x)
  | .cell d => ∃ c v, env.kindOf x = some .cell ∧ env.cells.lookup x = some c ∧ h.IsCell c (some v) ∧ Rd W h v d ∧ pa ≠ some c
  | .pen => env.kindOf x = some .local ∧ ∃ a, pa = some a ∧ m x = some (.ref a)
  | .unb => env.kindOf x = some .local
  | .glob => env.kindOf x = some .globalImplicit

structure FrOK (env : Env) (oa : Str → Addr) (pa : Option Addr) (ρ : Loc) (h : Heap) : Prop where
  kind : env.scope.kind = .function
  glob : env.globals = mainGlobals
  blt : env.builtins = builtinsNs
  nodebug : ∀ x lv, look ρ x = some lv → (x == ("__debug__" : Str)) = false
  lpen : pa ≠ some env.locals
  names : ∃ m, h.Ns env.locals m ∧ ∀ x lv, look ρ x = some lv → NmOK env oa pa (Ow oa pa ρ) m h x lv

theorem KeepS.ns {P : Addr → Prop} {h h' : Heap} {a : Addr} {m : Str → Option Value} (k : KeepS P h h') (hn : h.Ns a m) (hp : ¬ P a) : h'.Ns a m := by
  obtain ⟨o, es, ep, ho, hd, r⟩ := hn
  obtain ⟨sl, e⟩ := k.atD ho hp
  exact ⟨_, es, ep, e, hd, r⟩
theorem KeepS.isList {P : Addr → Prop} {h h' : Heap} {a : Addr} {items : Array Value} (k : KeepS P h h') (hl : h.IsList a items) (hp : ¬ P a) : h'.IsList a items := by
  obtain ⟨o, ho, hc, n, hd⟩ := hl
  exact ⟨_, k.at ho (cls_ne hc (by decide)) hp, hc, n, hd⟩
theorem KeepS.isCell {P : Addr → Prop} {h h' : Heap} {a : Addr} {v : Option Value} (k : KeepS P h h') (hl : h.IsCell a v) (hp : ¬ P a) : h'.IsCell a v := by
  obtain ⟨o, ho, hd⟩ := hl
  obtain ⟨sl, e⟩ := k.atD ho hp
  exact ⟨_, e, hd⟩

theorem NmOK.keep {env : Env} {oa : Str → Addr} {pa : Option Addr} {W : Addr → Prop} {m : Str → Option Value} {h h' : Heap} {x : Str} {lv : LV} (k : KeepS (pens pa) h h') (hW : ∀ b, pens pa b → W b) (n : NmOK env oa pa W m h x lv) : NmOK env oa pa W m h' x lv := by
  cases lv with
  | val d => obtain ⟨a, v, b, c⟩ := n; exact ⟨a, v, b, c.keep k hW⟩
  | own xs => obtain ⟨a, b, ⟨items, c, d⟩, e⟩ := n; exact ⟨a, b, ⟨items, k.isList c e, d.keep k fun _ _ => trivial⟩, e⟩
  | cell d => obtain ⟨c, v, a, b, e, f, g⟩ := n; exact ⟨c, v, a, b, k.isCell e g, f.keep k hW, g⟩
  | pen => exact n
  | unb => exact n
  | glob => exact n

theorem FrOK.keep {env : Env} {oa : Str → Addr} {pa : Option Addr} {ρ : Loc} {h h' : Heap} (x : FrOK env oa pa ρ h) (k : KeepS (pens pa) h h') : FrOK env oa pa ρ h' := by
  obtain ⟨a, b, c, d, e, m, f, g⟩ := x
  exact ⟨a, b, c, d, e, m, k.ns f e, fun x lv hx => (g x lv hx).keep k fun _ p => .inl p⟩

/-- the frames on the stack, as a raise needs them -/
noncomputable def FF (H0 h : Heap) (l : List Env) : Prop := ∀ env ∈ l, env.scope.kind ≠ .module ∧ ∃ L o, env.frame = some L ∧ H0.get? L = none ∧ h.get? L = some o ∧ o.cls = .type "frame" ∧ NonRec o
theorem FF.fun {H0 h : Heap} : ∀ {l : List Env}, FF H0 h l → h.FunFrames H0 l
  | [], _ => trivial
  | env :: r, f => by
    obtain ⟨a, L, o, b, c, d, _, e⟩ := f env (.head _)
    exact ⟨a, ⟨L, o, b, c, d, e⟩, FF.fun fun x m => f x (.tail _ m)⟩
theorem FF.keep {P : Addr → Prop} {H0 h h' : Heap} (k : KeepS P h h') {l : List Env} (f : FF H0 h l) : FF H0 h' l := by
  intro env m
  obtain ⟨a, L, o, b, c, d, e, n⟩ := f env m
  refine ⟨a, L, ?_⟩
  rcases k L o d with x | ⟨_, sl, x⟩ | ⟨_, _, o', x, c', n'⟩
  · exact ⟨_, b, c, x, e, n⟩
  · exact ⟨_, b, c, x, e, n⟩
  · exact ⟨_, b, c, x, c'.trans e, n' n⟩

/-- the state of a frame between two terms -/
structure St (H0 : Heap) (A : Around) (env : Env) (oa : Str → Addr) (pa : Option Addr) (ρ : Loc) (p : Option Int) (s : Shared) : Prop where
  stays : H0.StaysIn s.heap
  fr : FrOK env oa pa ρ s.heap
  pen : PenAt H0 pa p s.heap
  ff : ∀ l, A.frames = some l → FF H0 s.heap l

theorem St.step {H0 : Heap} {A : Around} {env : Env} {oa : Str → Addr} {pa : Option Addr} {ρ : Loc} {p p' : Option Int} {s s' : Shared} {R : Shared → Shared → Prop} (hR : IsR H0 pa R) (x : St H0 A env oa pa ρ p s) (r : R s s') (q : PenAt H0 pa p' s'.heap) : St H0 A env oa pa ρ p' s' :=
  ⟨hR.stays r x.stays, x.fr.keep (hR.keepS r), q, fun l hl => (x.ff l hl).keep (hR.keepS r)⟩

section
variable {prog : Program} {w : World} {A : Around} {H0 : Heap} {mg mb : Str → Option Value} {XP : Heap → Heap → Value → Exc → Prop} {R : Shared → Shared → Prop} {pa : Option Addr} {E : Value → Shared → Prop} {s : Shared}

noncomputable def GPost (H0 : Heap) (XP : Heap → Heap → Value → Exc → Prop) (R : Shared → Shared → Prop) (pa : Option Addr) {α β : Type} (V : Heap → α → β → Prop) (Q : α → Shared → Prop) (E : Value → Shared → Prop) (s : Shared) : Res β → Prop
  | .ok d p' => ∀ v s', R s s' → PenAt H0 pa p' s'.heap → V s'.heap v d → Q v s'
  | .err x p' => ∀ e s' hb, R s s' → PenAt H0 pa p' s'.heap → (∀ b, Live s.heap b → Live hb b) → XP hb s'.heap e x → E e s'
  | .stuck => False

theorem GPost.from {α β : Type} {V : Heap → α → β → Prop} {Q : α → Shared → Prop} {s s₁ : Shared} (hR : IsR H0 pa R) (r : R s s₁) {x : Res β} (h : GPost H0 XP R pa V Q E s x) : GPost H0 XP R pa V Q E s₁ x := by
  cases x with
  | ok d p => exact fun v s' r' => h v s' (hR.trans r r')
  | err x p => exact fun v s' hb r' q l => h v s' hb (hR.trans r r') q fun b lb => l b ((hR.keepS r).live lb)
  | stuck => exact h

theorem seq {α β γ δ : Type} {M : Model} {t : Sem α} {r : Res β} {f : β → Option Int → Res γ} {V : Heap → α → β → Prop} {V' : Heap → δ → γ → Prop} {Q : δ → Shared → Prop} {K : α → Shared → Prop}
    (hR : IsR H0 pa R) (ih : ∀ Q, GPost H0 XP R pa V Q E s r → wpAny M A t Q E s) (h : GPost H0 XP R pa V' Q E s (r.bind f))
    (k : ∀ v d p₁ s₁, R s s₁ → PenAt H0 pa p₁ s₁.heap → V s₁.heap v d → GPost H0 XP R pa V' Q E s₁ (f d p₁) → K v s₁) : wpAny M A t K E s := by
  refine ih K ?_
  cases r with
  | ok d p => exact fun v s' r' q x => k v d p s' r' q x (h.from hR r')
  | err x p => exact h
  | stuck => exact h

theorem GPost.done {α β : Type} {V : Heap → α → β → Prop} {Q : α → Shared → Prop} {d : β} {p : Option Int} (hR : IsR H0 pa R) (h : GPost H0 XP R pa V Q E s (.ok d p)) (q : PenAt H0 pa p s.heap) {v : α} {s' : Shared} (k : Keeps s s') (x : V s'.heap v d) : Q v s' :=
  h v s' (hR.keeps k) (q.exact k) x

end
end Mine

set_option linter.all false
namespace Mine
open PySem PySem.W PyProof.Rows

inductive ArgsOK (pa : Option Addr) (h : Heap) : List Value → List LV → Prop
  | nil : ArgsOK pa h [] []
  | val {v d vs lvs} : Rd (pens pa) h v d → ArgsOK pa h vs lvs → ArgsOK pa h (v :: vs) (.val d :: lvs)
  | pen {a vs lvs} : pa = some a → ArgsOK pa h vs lvs → ArgsOK pa h (.ref a :: vs) (.pen :: lvs)
theorem ArgsOK.keep {pa : Option Addr} {h h' : Heap} (k : KeepS (pens pa) h h') : ∀ {vs lvs}, ArgsOK pa h vs lvs → ArgsOK pa h' vs lvs := by
  intro vs lvs x
  induction x with
  | nil => exact .nil
  | val r _ ih => exact .val (r.keep k fun _ p => p) ih
  | pen e _ ih => exact .pen e ih

section
variable {prog : Program} {w : World} {A : Around} {H0 : Heap} {mg mb : Str → Option Value} {XP : Heap → Heap → Value → Exc → Prop}

noncomputable def GoodC (prog : Program) (w : World) (A : Around) (H0 : Heap) (mg : Str → Option Value) (XP : Heap → Heap → Value → Exc → Prop) (C : CallP) : Prop :=
  ∀ f lvs p, C f lvs p ≠ .stuck → ∃ a fo fd, mg f = some (.ref a) ∧ H0.get? a = some fo ∧ fo.data = .func fd ∧ ∀ pa vs s Q E, H0.StaysIn s.heap → (∀ l, A.frames = some l → FF H0 s.heap l) → PenAt H0 pa p s.heap →
    ArgsOK pa s.heap vs lvs → GPost H0 XP (RN H0 pa) pa (Rd (pens pa)) Q E s (C f lvs p) → wpAny (model prog w) A (call (.ref a) vs) Q E s
noncomputable def CallOK (prog : Program) (w : World) (A : Around) (H0 : Heap) (mg : Str → Option Value) (XP : Heap → Heap → Value → Exc → Prop) (C : CallP) (R : Shared → Shared → Prop) (pa : Option Addr) : Prop :=
  (∀ f lvs p, C f lvs p = .stuck) ∨ (R = RN H0 pa ∧ GoodC prog w A H0 mg XP C)

noncomputable def VB (_ : Heap) (b : Bool) (d : PyData) : Prop := d = .bool b
noncomputable def SE (prog : Program) (w : World) (A : Around) (H0 : Heap) (mg : Str → Option Value) (XP : Heap → Heap → Value → Exc → Prop) (n : Nat) : Prop :=
  ∀ {C : CallP} {R : Shared → Shared → Prop} {oa : Str → Addr} {pa : Option Addr} {env : Env} {ρ : Loc}, CallOK prog w A H0 mg XP C R pa → IsR H0 pa R → ∀ {p : Option Int} {s : Shared}, St H0 A env oa pa ρ p s →
    (∀ e Q E, GPost H0 XP R pa (Rd (pens pa)) Q E s (evP n C false ρ p e) → wpAny (model prog w) A (eval e env) Q E s) ∧
    (∀ e Q E, GPost H0 XP R pa VB Q E s (evP n C true ρ p e) → wpAny (model prog w) A (isTrue e env (eval e env)) Q E s)

variable {C : CallP} {R : Shared → Shared → Prop} {oa : Str → Addr} {pa : Option Addr} {env : Env} {ρ : Loc} {p : Option Int} {s : Shared} {E : Value → Shared → Prop} {n : Nat}

theorem pens_ow {oa : Str → Addr} {ρ : Loc} {b : Addr} (h : pens pa b) : Ow oa pa ρ b := .inl h

theorem load_sound {M : Model} {x : Str} {d : PyData} {Q : Value → Shared → Prop} (S : St H0 A env oa pa ρ p s) (hx : lvOf (look ρ x) = some d) (h : ∀ v, Rd (pens pa) s.heap v d → Q v s) : wpAny M A (loadName env x) Q E s := by
  refine Classical.byContradiction fun hn => ?_
  obtain ⟨m, hnm, hm⟩ := S.fr.names
  have hk := S.fr.kind
  cases e : look ρ x with
  | none => rw [e] at hx; cases hx
  | some l =>
    rw [e] at hx
    have hl := hm _ _ e
    cases l with
    | val d' => cases hx; exact hl.2.elim fun v b => hn (wpAny_loadName_local hk hl.1 hnm b.1 (h v (b.2.wider fun _ q _ => pens_ow q)))
    | own xs => cases hx; exact hl.2.2.1.elim fun items c => hn (wpAny_loadName_local hk hl.1 hnm hl.2.1 (h _ (Rd.list c.1 (c.2.elim fun as r => ⟨as, r.1, fun a m _ => r.2 a m trivial⟩) hl.2.2.2)))
    | cell d' => cases hx; exact hl.elim fun c hl => hl.elim fun v b => hn (wpAny_loadName_cell hk b.1 b.2.1 b.2.2.1 (h v (b.2.2.2.1.wider fun _ q _ => pens_ow q)))
    | _ => cases hx

theorem look_of_lvOf {o : Option LV} {d : PyData} (h : lvOf o = some d) : ∃ lv, o = some lv := by
  cases o with
  | none => cases h
  | some l => exact ⟨l, rfl⟩

theorem name_sound {M : Model} {x : Str} {pos : Pos} {d : PyData} {Q : Value → Shared → Prop} (S : St H0 A env oa pa ρ p s) (hx : lvOf (look ρ x) = some d) (h : ∀ v, Rd (pens pa) s.heap v d → Q v s) : wpAny M A (eval (.Name x pos) env) Q E s :=
  (look_of_lvOf hx).elim fun _ e => wpAny_Name (load_sound S hx h) (S.fr.nodebug _ _ e)

theorem glob_sound {M : Model} {x : Str} {pos : Pos} {v : Value} {Q : Value → Shared → Prop} (G : Glo H0 mg mb) (S : St H0 A env oa pa ρ p s) (hx : look ρ x = some .glob) (hg : mg x = some v) (h : Q v s) : wpAny M A (eval (.Name x pos) env) Q E s :=
  S.fr.names.elim fun m hm => Calls.Name_function_global S.fr.kind (hm.2 _ _ hx) (Calls.loadGlobal_global (mg := mg) (S.fr.glob ▸ G.g.keeps S.stays) hg h) (S.fr.nodebug _ _ hx)
theorem globB_sound {M : Model} {x : Str} {pos : Pos} {v : Value} {Q : Value → Shared → Prop} (G : Glo H0 mg mb) (S : St H0 A env oa pa ρ p s) (hx : look ρ x = some .glob) (hg : mg x = none) (hb : mb x = some v) (h : Q v s) : wpAny M A (eval (.Name x pos) env) Q E s :=
  S.fr.names.elim fun m hm => Calls.Name_function_global S.fr.kind (hm.2 _ _ hx) (Calls.loadGlobal_builtin (mg := mg) (mb := mb) (S.fr.glob ▸ G.g.keeps S.stays) hg (S.fr.blt ▸ G.b.keeps S.stays) hb h) (S.fr.nodebug _ _ hx)

theorem ns_of {e : Expr} (h : notStar e = true) : ∀ a b, e ≠ .Starred a b := by rintro a b rfl; cases h
theorem starEach_cons {e : Expr} {rest : List Expr} (h : notStar e = true) : starEach (e :: rest) env = (false, eval e env) :: starEach rest env := by
  cases e with
  | Starred _ _ => cases h
  | _ => rfl
noncomputable def noStar : List Expr → Prop := fun es => ∀ e ∈ es, notStar e = true
theorem backTo_cons {pos : Pos} {e : Expr} {r : List Expr} (h : notStar e = true) : backTo pos (starEach (e :: r) env) = (false, eval e env) :: backTo pos (starEach r env) := by
  rw [starEach_cons h]; rfl
theorem backTo_any {pos : Pos} {es : List Expr} (h : noStar es) : (backTo pos (starEach es env)).any (·.1) = false := by
  induction es with
  | nil => rfl
  | cons e r ih => rw [backTo_cons (h e (.head _))]; exact ih fun e m => h e (.tail _ m)
theorem when_ok {α γ : Type} {V : Heap → α → γ → Prop} {Q : α → Shared → Prop} {c : Bool} {r : Res γ} (h : GPost H0 XP R pa V Q E s (Res.when c r)) : c = true ∧ GPost H0 XP R pa V Q E s r := by
  cases c with
  | true => exact ⟨rfl, h⟩
  | false => exact h.elim

theorem evals_sound {pos : Pos} (hR : IsR H0 pa R) (ih : ∀ {p s}, St H0 A env oa pa ρ p s → ∀ e Q E, GPost H0 XP R pa (Rd (pens pa)) Q E s (evP n C false ρ p e) → wpAny (model prog w) A (eval e env) Q E s) {es : List Expr} :
    ∀ {p : Option Int} {s : Shared} {Q : List Value → Shared → Prop}, St H0 A env oa pa ρ p s → GPost H0 XP R pa (Rds (pens pa)) Q E s (evalsP (evP n C false ρ) es p) → wpAny (model prog w) A (spliced (backTo pos (starEach es env))) Q E s := by
  induction es with
  | nil => exact fun S h => Calls.spliced_nil (h.done hR S.pen (keeps_refl _) .nil)
  | cons e r ihs =>
    intro p s Q S h
    have h := when_ok h
    rw [backTo_cons h.1]
    exact Calls.spliced_cons (seq hR (ih S e · E) h.2 fun v d p₁ s₁ r₁ q₁ x₁ h₁ => seq hR (fun Q => ihs (S.step hR r₁ q₁)) h₁ fun vs ds p₂ s₂ r₂ q₂ x₂ h₂ => h₂.done hR q₂ (keeps_refl s₂) (.cons (x₁.keep (hR.keepS r₂) fun _ q => q) x₂))

theorem asName_inv {e : Expr} {x : Str × Pos} (h : asName e = some x) : e = .Name x.1 x.2 := val_inv (o := (vw e).nm) h
theorem isPenL_inv {l : Option LV} (h : isPenL l = true) : l = some .pen := by
  cases l with
  | none => cases h
  | some l => cases l with
    | pen => rfl
    | _ => cases h
theorem isGlobL_inv {l : Option LV} (h : isGlobL l = true) : l = some .glob := by
  cases l with
  | none => cases h
  | some l => cases l with
    | glob => rfl
    | _ => cases h
theorem any_inv {α : Type} {o : Option α} {f : α → Bool} (h : o.any f = true) : ∃ x, o = some x ∧ f x = true := by
  cases o with
  | none => cases h
  | some x => exact ⟨x, rfl, h⟩
theorem penNm_inv {e : Expr} (h : penNm ρ e = true) : ∃ x : Str × Pos, e = .Name x.1 x.2 ∧ look ρ x.1 = some .pen := (any_inv h).imp fun _ y => ⟨asName_inv y.1, isPenL_inv y.2⟩

theorem args_sound {pos : Pos} (hR : IsR H0 pa R) (ih : ∀ {p s}, St H0 A env oa pa ρ p s → ∀ e Q E, GPost H0 XP R pa (Rd (pens pa)) Q E s (evP n C false ρ p e) → wpAny (model prog w) A (eval e env) Q E s) {es : List Expr} :
    ∀ {p : Option Int} {s : Shared} {Q : List Value → Shared → Prop}, St H0 A env oa pa ρ p s → GPost H0 XP R pa (ArgsOK pa) Q E s (argsP (evP n C false ρ) ρ es p) → wpAny (model prog w) A (spliced (backTo pos (starEach es env))) Q E s := by
  induction es with
  | nil => exact fun S h => Calls.spliced_nil (h.done hR S.pen (keeps_refl _) .nil)
  | cons e r ihs =>
    intro p s Q S h
    have h := when_ok h
    rw [backTo_cons h.1]
    cases hp : penNm ρ e with
    | true =>
      have h := h.2
      rw [hp] at h
      refine (penNm_inv hp).elim fun x y => (S.fr.names.elim fun m hm => (hm.2 _ _ y.2).2.elim fun ad b => y.1 ▸ Calls.spliced_cons (wpAny_Name (wpAny_loadName_local S.fr.kind (hm.2 _ _ y.2).1 hm.1 b.2 ?_) (S.fr.nodebug _ _ y.2)))
      exact seq hR (fun Q => ihs S) h fun vs ds p₂ s₂ r₂ q₂ x₂ h₂ => h₂.done hR q₂ (keeps_refl s₂) (.pen b.1 x₂)
    | false =>
      have h := h.2
      rw [hp] at h
      exact Calls.spliced_cons (seq hR (ih S e · E) h fun v d p₁ s₁ r₁ q₁ x₁ h₁ => seq hR (fun Q => ihs (S.step hR r₁ q₁)) h₁ fun vs ds p₂ s₂ r₂ q₂ x₂ h₂ => h₂.done hR q₂ (keeps_refl s₂) (.val (x₁.keep (hR.keepS r₂) fun _ q => q) x₂))
end
end Mine

set_option linter.all false
namespace Mine
open PySem PySem.W PyProof.Rows

section
variable {prog : Program} {w : World} {A : Around} {H0 : Heap} {mg mb : Str → Option Value} {XP : Heap → Heap → Value → Exc → Prop}
variable {C : CallP} {R : Shared → Shared → Prop} {oa : Str → Addr} {pa : Option Addr} {env : Env} {ρ : Loc} {p : Option Int} {s : Shared} {E : Value → Shared → Prop} {n : Nat} {Q : Value → Shared → Prop}

/-- what the terms below a term are known to do -/
noncomputable abbrev IhF (prog : Program) (w : World) (A : Around) (H0 : Heap) (XP : Heap → Heap → Value → Exc → Prop) (C : CallP) (R : Shared → Shared → Prop) (oa : Str → Addr) (pa : Option Addr) (env : Env) (ρ : Loc) (n : Nat) : Prop :=
  ∀ {p s}, St H0 A env oa pa ρ p s → ∀ e Q E, GPost H0 XP R pa (Rd (pens pa)) Q E s (evP n C false ρ p e) → wpAny (model prog w) A (eval e env) Q E s
noncomputable abbrev IhT (prog : Program) (w : World) (A : Around) (H0 : Heap) (XP : Heap → Heap → Value → Exc → Prop) (C : CallP) (R : Shared → Shared → Prop) (oa : Str → Addr) (pa : Option Addr) (env : Env) (ρ : Loc) (n : Nat) : Prop :=
  ∀ {p s}, St H0 A env oa pa ρ p s → ∀ e Q E, GPost H0 XP R pa VB Q E s (evP n C true ρ p e) → wpAny (model prog w) A (isTrue e env (eval e env)) Q E s

theorem calm_ok {α β γ : Type} {V : Heap → α → γ → Prop} {Q : α → Shared → Prop} {r : Res β} {f : β → Option Int → Res γ} (h : GPost H0 XP R pa V Q E s (r.calm.bind f)) : ∃ d p₁, r = .ok d p₁ ∧ GPost H0 XP R pa V Q E s (f d p₁) := by
  cases r with
  | ok d p₁ => exact ⟨d, p₁, rfl, h⟩
  | err x p₁ => exact h.elim
  | stuck => exact h.elim

theorem ofOpt_some {α γ δ : Type} {V : Heap → α → γ → Prop} {Q : α → Shared → Prop} {o : Option δ} {f : δ → Option Int → Res γ} (h : GPost H0 XP R pa V Q E s ((Res.ofOpt p o).bind f)) : ∃ d, o = some d ∧ GPost H0 XP R pa V Q E s (f d p) := by
  cases o with
  | none => exact h.elim
  | some d => exact ⟨d, rfl, h⟩
theorem ofOpt_end {α γ : Type} {V : Heap → α → γ → Prop} {Q : α → Shared → Prop} {o : Option γ} (h : GPost H0 XP R pa V Q E s (Res.ofOpt p o)) : ∃ d, o = some d ∧ GPost H0 XP R pa V Q E s (.ok d p) := by
  cases o with
  | none => exact h.elim
  | some d => exact ⟨d, rfl, h⟩
theorem onSome_some {α γ δ : Type} {V : Heap → α → γ → Prop} {Q : α → Shared → Prop} {o : Option δ} {f : δ → Res γ} (h : GPost H0 XP R pa V Q E s (onSome o f)) : ∃ d, o = some d ∧ GPost H0 XP R pa V Q E s (f d) := by
  cases o with
  | none => exact h.elim
  | some d => exact ⟨d, rfl, h⟩
theorem arm_bin {l r : Expr} {op : Operator} {pos : Pos} (hR : IsR H0 pa R) (ih : IhF prog w A H0 XP C R oa pa env ρ n) (S : St H0 A env oa pa ρ p s)
    (h : GPost H0 XP R pa (Rd (pens pa)) Q E s ((evP n C false ρ p l).bind fun a p => (evP n C false ρ p r).bind fun b p => Res.ofOpt p (binP op a b))) : wpAny (model prog w) A (eval (.BinOp l op r pos) env) Q E s :=
  wpAny_BinOp (seq hR (ih S l · E) h fun a da p₁ s₁ r₁ q₁ ra h₁ => seq hR (ih (S.step hR r₁ q₁) r · E) h₁ fun b db p₂ s₂ r₂ q₂ rb h₂ => (ofOpt_end h₂).elim fun d e => bin_sound q₂.old (ra.keep (hR.keepS r₂) fun _ q => q) rb e.1 fun v s' k rv => e.2.done hR q₂ k rv)

theorem cmpR_sound {op : CmpOp} {a b : Value} {da db : PyData} (hU : A.units + 100 < cLine) (hR : IsR H0 pa R) (q : PenAt H0 pa p s.heap) (ra : Rd (pens pa) s.heap a da) (rb : Rd (pens pa) s.heap b db)
    (h : GPost H0 XP R pa (Rd (pens pa)) Q E s (cmpR op da db p)) : wpAny (model prog w) A (compareOp op a b) Q E s :=
  (ofOpt_some h).elim fun c e => cmp_sound hU ra rb e.1 fun s' k => e.2.done hR q k (.bool c)
theorem cmpR_soundT {op : CmpOp} {a b : Value} {da db : PyData} {Q : Bool → Shared → Prop} (hU : A.units + 100 < cLine) (hR : IsR H0 pa R) (q : PenAt H0 pa p s.heap) (ra : Rd (pens pa) s.heap a da) (rb : Rd (pens pa) s.heap b db)
    (h : GPost H0 XP R pa VB Q E s (cmpR op da db p)) : wpAny (model prog w) A (compareOp op a b) (fun c s₃ => wpAny (model prog w) A (truthy c) Q E s₃) E s :=
  (ofOpt_some h).elim fun c e => cmp_sound hU ra rb e.1 fun s' k => wpAny_truthy_bool (e.2.done hR q k rfl)

theorem behind_of {op : CmpOp} {r : Expr} (h : notSet r = true) : behindInMarks op r = false := by
  cases r with
  | Set _ _ _ => cases h
  | _ => rfl

theorem arm_cmp {l r : Expr} {op : CmpOp} {pos : Pos} (hU : A.units + 100 < cLine) (hR : IsR H0 pa R) (ih : IhF prog w A H0 XP C R oa pa env ρ n) (S : St H0 A env oa pa ρ p s)
    (h : GPost H0 XP R pa (Rd (pens pa)) Q E s (cmp1P (evP n C false ρ) l op r p)) : wpAny (model prog w) A (eval (.Compare l [op] [r] pos) env) Q E s :=
  have h := when_ok h
  wpAny_Compare1 (seq hR (ih S l · E) h.2 fun a da p₁ s₁ r₁ q₁ ra h₁ => seq hR (ih (S.step hR r₁ q₁) r · E) h₁ fun b db p₂ s₂ r₂ q₂ rb h₂ => cmpR_sound hU hR q₂ (ra.keep (hR.keepS r₂) fun _ q => q) rb h₂) (behind_of h.1)

theorem arm_cmpT {l r : Expr} {op : CmpOp} {pos : Pos} {whole : Sem Value} {Q : Bool → Shared → Prop} (hU : A.units + 100 < cLine) (hR : IsR H0 pa R) (ih : IhF prog w A H0 XP C R oa pa env ρ n) (S : St H0 A env oa pa ρ p s)
    (h : GPost H0 XP R pa VB Q E s (cmp1P (evP n C false ρ) l op r p)) : wpAny (model prog w) A (isTrue (.Compare l [op] [r] pos) env whole) Q E s :=
  have h := when_ok h
  wpAny_isTrue_Compare1 (seq hR (ih S l · E) h.2 fun a da p₁ s₁ r₁ q₁ ra h₁ => seq hR (ih (S.step hR r₁ q₁) r · E) h₁ fun b db p₂ s₂ r₂ q₂ rb h₂ => cmpR_soundT hU hR q₂ (ra.keep (hR.keepS r₂) fun _ q => q) rb h₂) (behind_of h.1)

theorem arm_cmp2T {l m r : Expr} {o1 o2 : CmpOp} {pos : Pos} {whole : Sem Value} {Q : Bool → Shared → Prop} (hU : A.units + 100 < cLine) (hR : IsR H0 pa R) (ih : IhF prog w A H0 XP C R oa pa env ρ n) (S : St H0 A env oa pa ρ p s)
    (h : GPost H0 XP R pa VB Q E s (cmp2P (evP n C false ρ) l o1 m o2 r p)) : wpAny (model prog w) A (isTrue (.Compare l [o1, o2] [m, r] pos) env whole) Q E s := by
  have h := when_ok h
  refine isTrue_chain (rs := []) (seq hR (ih S l · E) h.2 fun a da p₁ s₁ r₁ q₁ ra h₁ => ?_) (behind_of h.1)
  have S₁ := S.step hR r₁ q₁
  refine test_link (seq hR (ih S₁ m · E) h₁ fun b db p₂ s₂ r₂ q₂ rb h₂ => ?_)
  have S₂ := S₁.step hR r₂ q₂
  have h₃ : GPost H0 XP R pa VB Q E s₂ ((Res.ofOpt p₂ (cmpP o1 da db)).bind fun c p => onBool (fun p => (evP n C false ρ p r).bind fun d p => cmpR o2 db d p) (fun p => .ok (.bool false) p) (.bool c) p) := by
    unfold cmpR boolR at h₂
    cases hc : cmpP o1 da db <;> rw [hc] at h₂ <;> exact h₂
  refine (ofOpt_some h₃).elim fun c e => cmp_sound hU (ra.keep (hR.keepS r₂) fun _ q => q) rb e.1 fun s' k => wpAny_truthy_bool ?_
  have q₃ := q₂.exact k
  cases c with
  | false => exact e.2.done hR q₂ k rfl
  | true => exact test_last (seq hR (ih (S₂.step hR (hR.keeps k) q₃) r · E) (e.2.from hR (hR.keeps k)) fun d dd p₄ s₄ r₄ q₄ rd h₄ => cmpR_soundT hU hR q₄ ((rb.exact k).keep (hR.keepS r₄) fun _ q => q) rd h₄)

theorem arm_not {x : Expr} {pos : Pos} {whole : Sem Value} {Q : Bool → Shared → Prop} (hR : IsR H0 pa R) (ih : IhT prog w A H0 XP C R oa pa env ρ n) (S : St H0 A env oa pa ρ p s)
    (h : GPost H0 XP R pa VB Q E s ((evP n C true ρ p x).bind notR)) : wpAny (model prog w) A (isTrue (.UnaryOp .Not x pos) env whole) Q E s :=
  wpAny_isTrue_Not (seq hR (ih S x · E) h fun b d p₁ s₁ r₁ q₁ x₁ h₁ => (show GPost H0 XP R pa VB Q E s₁ (notR (.bool b) p₁) from (show d = .bool b from x₁) ▸ h₁).done hR q₁ (keeps_refl _) rfl)

theorem boolP_sound {op : BoolOp} (hR : IsR H0 pa R) (ih : IhT prog w A H0 XP C R oa pa env ρ n) {es : List Expr} : ∀ {p : Option Int} {s : Shared} {Q : Bool → Shared → Prop}, St H0 A env oa pa ρ p s →
    GPost H0 XP R pa VB Q E s (boolP (evP n C true ρ) op es p) → wpAny (model prog w) A (allTrue op es env) Q E s := by
  induction es with
  | nil =>
    intro p s Q S h
    rw [arm_allTrue_nil]
    exact wpAny_pure (h.done hR S.pen (keeps_refl _) rfl)
  | cons e r ihs =>
    intro p s Q S h
    rw [arm_allTrue_cons]
    refine wpAny_bind (seq hR (ih S e · E) h fun b d p₁ s₁ r₁ q₁ x₁ h₁ => ?_)
    obtain rfl : d = _ := x₁
    cases op <;> cases b
    · exact wpAny_pure (h₁.done hR q₁ (keeps_refl _) rfl)
    · exact ihs (S.step hR r₁ q₁) h₁
    · exact ihs (S.step hR r₁ q₁) h₁
    · exact wpAny_pure (h₁.done hR q₁ (keeps_refl _) rfl)

theorem truthP_inv {d : PyData} {b : Bool} (h : truthP d = some b) : d = .bool b := by
  cases d with
  | bool c => cases h; rfl
  | _ => cases h
theorem arm_truth {e : Expr} {whole : Sem Value} {Q : Bool → Shared → Prop} (hR : IsR H0 pa R) (ih : ∀ Q, GPost H0 XP R pa (Rd (pens pa)) Q E s (evP n C false ρ p e) → wpAny (model prog w) A whole Q E s)
    (h : GPost H0 XP R pa VB Q E s ((evP n C false ρ p e).bind fun v p => truthR v p)) (he : isTrue e env whole = (do let v ← whole; standAt e.pos; holding [v] (truthy v)) := by rfl) : wpAny (model prog w) A (isTrue e env whole) Q E s :=
  wpAny_isTrue_value (seq hR ih h fun v d p₁ s₁ r₁ q₁ x₁ h₁ => (ofOpt_some h₁).elim fun b e => Rd.bool_inv (truthP_inv e.1 ▸ x₁) ▸ wpAny_truthy_bool (e.2.done hR q₁ (keeps_refl _) rfl)) he

theorem arm_ifexp {t b o : Expr} {pos : Pos} (hR : IsR H0 pa R) (ih : IhF prog w A H0 XP C R oa pa env ρ n) (it : IhT prog w A H0 XP C R oa pa env ρ n) (S : St H0 A env oa pa ρ p s)
    (h : GPost H0 XP R pa (Rd (pens pa)) Q E s ((evP n C true ρ p t).bind (onBool (fun p => evP n C false ρ p b) fun p => evP n C false ρ p o))) : wpAny (model prog w) A (eval (.IfExp t b o pos) env) Q E s := by
  refine wpAny_IfExp (seq hR (it S t · E) h fun c d p₁ s₁ r₁ q₁ x₁ h₁ => ?_)
  obtain rfl : d = _ := x₁
  cases c
  · exact ih (S.step hR r₁ q₁) o _ _ h₁
  · exact ih (S.step hR r₁ q₁) b _ _ h₁

theorem arm_neg {x : Expr} {pos : Pos} (hR : IsR H0 pa R) (ih : IhF prog w A H0 XP C R oa pa env ρ n) (S : St H0 A env oa pa ρ p s)
    (h : GPost H0 XP R pa (Rd (pens pa)) Q E s ((evP n C false ρ p x).bind negR)) : wpAny (model prog w) A (eval (.UnaryOp .USub x pos) env) Q E s :=
  wpAny_UnaryOp (seq hR (ih S x · E) h fun v d p₁ s₁ r₁ q₁ x₁ h₁ => (ofOpt_some h₁).elim fun i e => by
    obtain ⟨t, rfl⟩ := Rd.int_inv (intOf_inv e.1 ▸ x₁)
    exact PyProof.Rows.neg_int (e.2.done hR q₁ (keeps_toks ..) (.int ..)))

theorem arm_and {x y : Expr} {pos : Pos} (hR : IsR H0 pa R) (ih : IhF prog w A H0 XP C R oa pa env ρ n) (S : St H0 A env oa pa ρ p s)
    (h : GPost H0 XP R pa (Rd (pens pa)) Q E s ((evP n C false ρ p x).bind (onBool (fun p => evP n C false ρ p y) fun p => .ok (.bool false) p))) : wpAny (model prog w) A (eval (.BoolOp .And [x, y] pos) env) Q E s := by
  rw [arm_eval_BoolOp]
  show wpAny _ A (do
    let v ← eval x env
    standAt pos
    let t ← holding [v] (truthy v)
    match BoolOp.And, t with
    | .And, false | .Or, true => pure v
    | _, _ => boolOp pos .And [eval y env]) Q E s
  refine wpAny_bind (seq hR (ih S x · E) h fun v d p₁ s₁ r₁ q₁ x₁ h₁ => wpAny_bind (wpAny_standAt (wpAny_bind (wpAny_holding ?_))))
  cases d with
  | bool b =>
    obtain rfl := x₁.bool_inv
    refine wpAny_truthy_bool ?_
    cases b
    · exact wpAny_pure (h₁.done hR q₁ (keeps_refl _) (.bool _))
    · exact ih (S.step hR r₁ q₁) y _ _ h₁
  | _ => exact h₁.elim

theorem arm_tuple {es : List Expr} {k : Nat} {pos : Pos} (hR : IsR H0 pa R) (ih : IhF prog w A H0 XP C R oa pa env ρ n) (S : St H0 A env oa pa ρ p s)
    (h : GPost H0 XP R pa (Rd (pens pa)) Q E s ((evalsP (evP n C false ρ) es p).bind (fitR .tuple))) : wpAny (model prog w) A (eval (.Tuple es k pos) env) Q E s :=
  Tuple_ (seq hR (fun Q => evals_sound hR ih S) h fun vs ds p₁ s₁ r₁ q₁ x₁ h₁ => have h₂ := when_ok h₁
    wpAny_newObj_type (h₂.2.done hR q₁ (keeps_push ..) (Rd.tuple (isTuple_push _) (x₁.exact (keeps_push ..)))) (Nat.le_trans (Nat.le_of_eq x₁.length) (of_decide_eq_true h₂.1)))

theorem arm_list {es : List Expr} {pos : Pos} (hR : IsR H0 pa R) (ih : IhF prog w A H0 XP C R oa pa env ρ n) (S : St H0 A env oa pa ρ p s)
    (h : GPost H0 XP R pa (Rd (pens pa)) Q E s ((evalsP (evP n C false ρ) es p).bind (fitR .list))) : wpAny (model prog w) A (eval (.List es pos) env) Q E s :=
  List_ (seq hR (fun Q => evals_sound hR ih S) h fun vs ds p₁ s₁ r₁ q₁ x₁ h₁ => have h₂ := when_ok h₁
    wpAny_newObj_type (h₂.2.done hR q₁ (keeps_push ..) (Rd.list (isList_push _) (x₁.exact (keeps_push ..)) q₁.old.fresh)) (Nat.le_trans (Nat.le_of_eq x₁.length) (of_decide_eq_true h₂.1)))
end
end Mine

set_option linter.all false
namespace Mine
open PySem PySem.W PyProof.Rows

section
variable {prog : Program} {w : World} {A : Around} {H0 : Heap} {mg mb : Str → Option Value} {XP : Heap → Heap → Value → Exc → Prop}
variable {C : CallP} {R : Shared → Shared → Prop} {oa : Str → Addr} {pa : Option Addr} {env : Env} {ρ : Loc} {p : Option Int} {s : Shared} {E : Value → Shared → Prop} {n : Nat} {Q : Value → Shared → Prop}

theorem bind_ok {β γ : Type} {r : Res β} {f : β → Option Int → Res γ} {c : γ} {q : Option Int} (h : r.bind f = .ok c q) : ∃ d p₁, r = .ok d p₁ ∧ f d p₁ = .ok c q := by
  cases r with
  | ok d p₁ => exact ⟨d, p₁, rfl, h⟩
  | err x p₁ => cases h
  | stuck => cases h
theorem when_inv {β : Type} {c : Bool} {r : Res β} {d : β} {q : Option Int} (h : Res.when c r = .ok d q) : c = true ∧ r = .ok d q := by
  cases c with
  | true => exact ⟨rfl, h⟩
  | false => cases h
theorem evals_ok {ev : Option Int → Expr → Res PyData} {es : List Expr} : ∀ {p : Option Int} {ds q}, evalsP ev es p = .ok ds q → noStar es ∧ ds.length = es.length := by
  induction es with
  | nil => exact fun h => ⟨fun _ m => (nomatch m), by cases h; rfl⟩
  | cons e r ih =>
    intro p ds q h
    have h := when_inv h
    obtain ⟨d, p₁, _, h₁⟩ := bind_ok h.2
    obtain ⟨ds', p₂, e₂, h₂⟩ := bind_ok h₁
    cases h₂
    exact ⟨mem_cns h.1 (ih e₂).1, congrArg (· + 1) (ih e₂).2⟩
theorem args_ok {ev : Option Int → Expr → Res PyData} {ρ : Loc} {es : List Expr} : ∀ {p : Option Int} {ds q}, argsP ev ρ es p = .ok ds q → noStar es := by
  induction es with
  | nil => exact fun _ _ m => (nomatch m)
  | cons e r ih =>
    intro p ds q h
    have h := when_inv h
    cases hp : penNm ρ e with
    | true =>
      have h2 := h.2
      rw [hp] at h2
      obtain ⟨ds', p₂, e₂, _⟩ := bind_ok h2
      exact mem_cns h.1 (ih e₂)
    | false =>
      have h2 := h.2
      rw [hp] at h2
      obtain ⟨d, p₁, _, h₁⟩ := bind_ok h2
      obtain ⟨ds', p₂, e₂, h₂⟩ := bind_ok h₁
      exact mem_cns h.1 (ih e₂)

theorem base_any {o : Expr} {m : Str} {x : Sem Value} (h : noSuper o = true) : attributeBase o m env x = x := by
  cases o with
  | Call f args kws q => cases h
  | _ => rfl
theorem base_eq {o : Expr} {m : Str} (h : noSuper o = true) : attributeBase o m env (eval o env) = eval o env := base_any h

theorem arm_method0 {o : Expr} {m : Str} {apos pos : Pos} (hR : IsR H0 pa R) (ih : IhF prog w A H0 XP C R oa pa env ρ n) (S : St H0 A env oa pa ρ p s)
    (h : GPost H0 XP R pa (Rd (pens pa)) Q E s (Res.when (apos.endLine == pos.line && noSuper o) ((evP n C false ρ p o).bind fun d p => Res.ofOpt p (methodP d m [])))) :
    wpAny (model prog w) A (eval (.Call (.Attribute o m apos) [] [] pos) env) Q E s :=
  have h := when_ok h
  have hs := Bool.and_eq_true_iff.mp h.1
  Call_method0 (base_eq hs.2) hs.1 (seq hR (ih S o · E) h.2 fun v d p₁ s₁ r₁ q₁ x₁ h₁ => (ofOpt_end h₁).elim fun r e => method_sound0 x₁ e.1 fun v s' k rv => e.2.done hR q₁ k rv)

theorem method_names {d : PyData} {m : Str} {e r : PyData} (h : methodP d m [e] = some r) : (m = ("startswith" : Str) ∨ m = ("index" : Str) ∨ m = ("join" : Str)) ∧ ∃ x, d = .str x := by
  refine bind_go h fun x hx h => ⟨?_, x, strOf_inv hx⟩
  unfold methS at h
  cases h1 : m == ("startswith" : Str) with
  | true => exact .inl (eq_of_beq h1)
  | false =>
  rw [h1] at h
  cases h2 : m == ("index" : Str) with
  | true => exact .inr (.inl (eq_of_beq h2))
  | false =>
  rw [h2] at h
  cases h3 : m == ("lower" : Str) with
  | true => rw [h3] at h; cases h
  | false =>
  rw [h3] at h
  cases h4 : m == ("upper" : Str) with
  | true => rw [h4] at h; cases h
  | false =>
  rw [h4] at h
  cases h5 : m == ("isupper" : Str) with
  | true => rw [h5] at h; cases h
  | false => rw [h5] at h; exact .inr (.inr (eq_of_beq (only_inv h).1))

theorem arm_method1 {o e : Expr} {m : Str} {apos pos : Pos} (hR : IsR H0 pa R) (ih : IhF prog w A H0 XP C R oa pa env ρ n) (S : St H0 A env oa pa ρ p s)
    (h : GPost H0 XP R pa (Rd (pens pa)) Q E s (Res.when (apos.endLine == pos.line && noSuper o && notStar e) ((evP n C false ρ p o).bind fun d p => (evP n C false ρ p e).calm.bind fun k p => Res.ofOpt p (methodP d m [k])))) :
    wpAny (model prog w) A (eval (.Call (.Attribute o m apos) [e] [] pos) env) Q E s :=
  have h := when_ok h
  have hs := Bool.and_eq_true_iff.mp h.1
  have hs1 := Bool.and_eq_true_iff.mp hs.1
  Call_method1 (base_eq hs1.2) (starEach_cons hs.2) hs1.1 (seq hR (ih S o · E) h.2 fun v d p₁ s₁ r₁ q₁ x₁ h₁ => (calm_ok h₁).elim fun k h₁ => h₁.elim fun p₂ h₁ => (ofOpt_end h₁.2).elim fun r h₂ =>
    method_sound1 (f := fun e => methodP d m [e]) (fun _ => rfl) x₁ (method_names h₂.1).1 (method_names h₂.1).2 (ih (S.step hR r₁ q₁) e _ E (by
      rw [h₁.1]
      exact fun v' s' r' q' x' => ⟨k, r, x', h₂.1, fun u s'' kp ru => (h₂.2.from hR r').done hR q' kp ru⟩)))

theorem boot_or {T : Option Value} {f : Str} (L : List Str) (e : T = some (bootv f)) (m : f ∈ L) (k : (∃ T, bootv f = .type T) ∨ ∃ id, bootv f = .builtin id) : T = some (bootv f) ∧ f ∈ L ∧ ((∃ T, bootv f = .type T) ∨ ∃ id, bootv f = .builtin id) := ⟨e, m, k⟩
theorem boot7 {f : Str} (hf : isBlt f = true) :
    bootBuiltins f = some (bootv f) ∧ f ∈ (["len", "str", "ord", "abs", "max", "min", "sum", "range", "list", "enumerate"] : List Str) ∧ ((∃ T, bootv f = .type T) ∨ ∃ id, bootv f = .builtin id) := by
  have hm := List.contains_iff_mem.mp hf
  revert hm
  refine mem_cns (p := fun f => bootBuiltins f = some (bootv f) ∧ f ∈ (["len", "str", "ord", "abs", "max", "min", "sum", "range", "list", "enumerate"] : List Str) ∧ ((∃ T, bootv f = .type T) ∨ ∃ id, bootv f = .builtin id)) ?_ (mem_cns ?_ (mem_cns ?_ (mem_cns ?_ (mem_cns ?_ (mem_cns ?_ (mem_cns ?_ fun _ m => by cases m)))))) f
  · exact ⟨Boot.«len», by decide, .inr ⟨"len", by decide⟩⟩
  · exact ⟨Boot.«str», by decide, .inl ⟨"str", by decide⟩⟩
  · exact ⟨Boot.«ord», by decide, .inr ⟨"ord", by decide⟩⟩
  · exact ⟨Boot.«abs», by decide, .inr ⟨"abs", by decide⟩⟩
  · exact ⟨Boot.«max», by decide, .inr ⟨"max", by decide⟩⟩
  · exact ⟨Boot.«min», by decide, .inr ⟨"min", by decide⟩⟩
  · exact ⟨Boot.«sum», by decide, .inr ⟨"sum", by decide⟩⟩

theorem arm_builtin {f : Str} {fp pos : Pos} {args : List Expr} (G : Glo H0 mg mb) (hh : A.handled = none) (hR : IsR H0 pa R) (ih : IhF prog w A H0 XP C R oa pa env ρ n) (S : St H0 A env oa pa ρ p s) (hl : look ρ f = some .glob)
    (hf : isBlt f = true) (h : GPost H0 XP R pa (Rd (pens pa)) Q E s ((evalsP (evP n C false ρ) args p).calm.bind fun ds p => Res.ofOpt p (builtinP f ds))) : wpAny (model prog w) A (eval (.Call (.Name f fp) args [] pos) env) Q E s := by
  refine Classical.byContradiction fun hn => ?_
  obtain ⟨hb, hm, hv⟩ := boot7 hf
  obtain ⟨ds, p₁, hk, h₁⟩ := calm_ok h
  obtain ⟨d, hd, h₁⟩ := ofOpt_end h₁
  obtain ⟨hst, hlen⟩ := evals_ok hk
  have g := G.boot f hm
  refine hn (wpAny_Call_NameR (globB_sound G S hl g.1 (g.2.trans hb) ?_))
  have body : wpAny (model prog w) A (spliced (backTo pos (starEach args env))) (fun vs s₁ => wpAny (model prog w) A (call (bootv f) vs) Q E s₁) E s :=
    evals_sound hR ih S (hk ▸ fun vs s' r' q' x' => builtin_sound hh x' hd fun v s'' k rv => (h₁.from hR r').done hR q' k rv)
  cases args with
  | nil => cases List.eq_nil_of_length_eq_zero hlen; cases hd
  | cons e rest =>
    refine hv.elim (fun x => x.elim fun T hv => ?_) fun x => x.elim fun id hv => ?_
    · rw [hv] at body ⊢
      exact PyProof.Rows.callWith_type1 body (starEach_cons (hst e (.head _))) (backTo_any fun x m => hst x (.tail _ m))
    · rw [hv] at body ⊢
      exact PyProof.Rows.callWith_builtin1 body (starEach_cons (hst e (.head _))) (backTo_any fun x m => hst x (.tail _ m))

theorem callWith_fn {M : Model} {a : Addr} {fo : Obj} {fd : FuncData} {pos : Pos} {args : List Expr} (hst : noStar args) (hfd : fo.data = .func fd)
    (h : wpAny M A (spliced (backTo pos (starEach args env))) (fun vs s₁ => s₁.heap.get? a = some fo ∧ wpAny M A (call (.ref a) vs) Q E s₁) E s) : wpAny M A (callWith pos (.ref a) [] (backTo pos (starEach args env)) []) Q E s := by
  have hk : ∀ h, (fun h : Heap => h.get? a = some fo) h → ∃ k, (k = Keeper.frame ∨ k = Keeper.machine ∨ k = Keeper.boundFrame) ∧ Looks M h (keeperOf (.ref a)) k :=
    fun h e => ⟨.frame, .inl rfl, (Looks.ld (part := none) e).andThen (by rw [hfd]; exact .now)⟩
  refine callWith_of (P := fun h => h.get? a = some fo) (by rw [backTo_any hst]; rfl) hk ?_
  cases args with
  | nil => exact wpAny_bind (wpAny_mono h (fun vs s' h' => wpAny_bind (wpAny_pure (wpAny_holding (wpAny_bind (wpAny_pure (wpAny_bind (wpAny_pure (wpAny_pure h')))))))) fun _ _ x => x)
  | cons e rest =>
    rw [backTo_cons (hst e (.head _))] at h ⊢
    exact Calls.evalArgs_plain h

theorem arm_call {f : Str} {fp pos : Pos} {args : List Expr} (G : Glo H0 mg mb) (hC : CallOK prog w A H0 mg XP C R pa) (hR : IsR H0 pa R) (ih : IhF prog w A H0 XP C R oa pa env ρ n) (S : St H0 A env oa pa ρ p s) (hl : look ρ f = some .glob)
    (h : GPost H0 XP R pa (Rd (pens pa)) Q E s ((argsP (evP n C false ρ) ρ args p).calm.bind fun lvs p => C f lvs p)) : wpAny (model prog w) A (eval (.Call (.Name f fp) args [] pos) env) Q E s := by
  refine Classical.byContradiction fun hn => ?_
  obtain ⟨lvs, p₁, hk, h₁⟩ := calm_ok h
  have hne : C f lvs p₁ ≠ .stuck := fun e => by rw [e] at h₁; exact h₁
  rcases hC with hC | ⟨rfl, hC⟩
  · exact hne (hC _ _ _)
  obtain ⟨a, fo, fd, hg, hfo, hfd, hcall⟩ := hC f lvs p₁ hne
  exact hn (wpAny_Call_NameR (glob_sound G S hl hg (callWith_fn (args_ok hk) hfd (args_sound hR ih S (hk ▸ fun vs s' r' q' x' => have S' := S.step hR r' q'
    ⟨S'.stays _ _ hfo, hcall pa vs s' Q E S'.stays S'.ff q' x' (h₁.from hR r')⟩)))))

theorem evP_starred {m : Bool} {a : Expr} {b : Pos} : evP n C m ρ p (.Starred a b) = .stuck := by
  cases n <;> cases m <;> rfl
theorem notStar_of {m : Bool} {e : Expr} (h : evP n C m ρ p e ≠ .stuck) : notStar e = true := by
  cases e with
  | Starred a b => exact absurd evP_starred h
  | _ => rfl
theorem two_star {r : Str} {rp lp : Pos} {e : Expr} : noStar [.Name r rp, .List [e] lp] := mem_cns rfl (mem_cns rfl fun _ m => nomatch m)

theorem arm_pencall {f r : Str} {fp rp lp pos : Pos} {e : Expr} (G : Glo H0 mg mb) (hC : CallOK prog w A H0 mg XP C R pa) (hR : IsR H0 pa R) (ih : IhF prog w A H0 XP C R oa pa env ρ n) (S : St H0 A env oa pa ρ none s) (hl : look ρ f = some .glob)
    (h : GPost H0 XP R pa (Rd (pens pa)) Q E s ((evP n C false ρ none (.Name r rp)).calm.bind fun d p => (evP n C false ρ p e).calm.bind fun k p => penGo C f d k p)) : wpAny (model prog w) A (eval (.Call (.Name f fp) [.Name r rp, .List [e] lp] [] pos) env) Q E s := by
  refine Classical.byContradiction fun hn => ?_
  obtain rfl : pa = none := by
    cases pa with
    | none => rfl
    | some a => exact S.pen.elim
  obtain ⟨d, p₁, hk₁, h₁⟩ := calm_ok h
  obtain ⟨k, p₂, hk₂, h₂⟩ := calm_ok h₁
  obtain ⟨k, hki, h₂⟩ := ofOpt_some h₂
  obtain rfl := intOf_inv hki
  cases p₂ with
  | some _ => exact h₂.elim
  | none =>
  obtain ⟨v, p₃, hk₃, h₃⟩ := calm_ok h₂
  have h₃ := when_ok h₃
  rcases hC with hC | ⟨rfl, hC⟩
  · rw [hC] at hk₃; cases hk₃
  obtain ⟨a, fo, fd, hg, hfo, hfd, hcall⟩ := hC f [.val d, .pen] (some k) (by rw [hk₃]; exact nofun)
  refine hn (wpAny_Call_NameR (glob_sound G S hl hg (callWith_fn two_star hfd ?_)))
  rw [backTo_cons rfl, backTo_cons rfl]
  refine Calls.spliced_cons (ih S _ _ E (hk₁ ▸ fun vr s₁ r₁ q₁ x₁ => ?_))
  have S₁ := S.step hR r₁ q₁
  refine Calls.spliced_cons (List_ ?_)
  rw [backTo_cons (notStar_of (by rw [hk₂]; exact nofun))]
  refine Calls.spliced_cons (ih S₁ _ _ E (hk₂ ▸ fun vk s₂ r₂ q₂ x₂ => ?_))
  have S₂ := S₁.step hR r₂ q₂
  refine x₂.int_inv.elim fun t ht => ?_
  subst ht
  refine Calls.spliced_nil (wpAny_newObj_type (Calls.spliced_nil ?_) (by show 1 ≤ sizeLine; decide))
  have hnl : ¬ Live s₂.heap s₂.heap.objs.size := fun ⟨o, ho⟩ => Nat.lt_irrefl _ (Heap.lt_size ho)
  have k3 : Keeps s₂ { s₂ with heap := s₂.heap.push { cls := .type "list", data := .seq [Value.int k t].toArray } } := keeps_push ..
  have S₃ := S₂.step (p' := none) hR (hR.keeps k3) trivial
  have hls : ∀ b, pens (some s₂.heap.objs.size) b → ¬ Live s₂.heap b := fun b hb => (Option.some.inj hb : _ = b) ▸ hnl
  refine ⟨S₃.stays _ _ hfo, hcall (some s₂.heap.objs.size) _ _ Q E S₃.stays S₃.ff ⟨⟨t, isList_push _⟩, Option.eq_none_iff_forall_ne_some.mpr fun o hz => hnl ⟨o, S₂.stays _ _ hz⟩⟩ (.val (((x₁.keep (hR.keepS r₂) fun _ q => q).wider fun b hb lb => absurd lb (hls b hb)).exact k3) (.pen rfl .nil)) ?_⟩
  rw [hk₃]
  intro v' s₄ r₄ q₄ x₄
  have r12 := hR.trans r₁ r₂
  refine h₃.2 v' s₄ ?_ trivial (x₄.flat h₃.1)
  obtain ⟨h4, t4, rfl, kk, st⟩ := r₄
  obtain ⟨h3, t3, rfl, kk3, st3⟩ := r12
  exact ⟨h4, t4, rfl, (kk3.trans (keeps_keepS (W := pens none) k3) fun _ p _ => p).trans kk fun b hb lb => absurd (kk3.live lb) (hls b hb), fun x => st S₃.stays⟩
end
end Mine

set_option linter.all false
namespace Mine
open PySem PySem.W PyProof.Rows

section
variable {prog : Program} {w : World} {A : Around} {H0 : Heap} {mg mb : Str → Option Value} {XP : Heap → Heap → Value → Exc → Prop}
variable {C : CallP} {R : Shared → Shared → Prop} {oa : Str → Addr} {pa : Option Addr} {env : Env} {ρ : Loc} {p : Option Int} {s : Shared} {E : Value → Shared → Prop} {n : Nat} {Q : Value → Shared → Prop}

theorem part_sound {e : Option Expr} {Q : Value → Shared → Prop} (hR : IsR H0 pa R) (ih : IhF prog w A H0 XP C R oa pa env ρ n) (S : St H0 A env oa pa ρ p s)
    (h : GPost H0 XP R pa (fun _ v i => IsPart v i) Q E s (partP (evP n C false ρ) e p)) : wpAny (model prog w) A (evalPart e env) Q E s := by
  cases e with
  | none => exact evalPart_none env ▸ wpAny_pure (h.done hR S.pen (keeps_refl _) .none)
  | some e =>
    rw [evalPart_some]
    refine seq hR (ih S e · E) h fun v d p₁ s₁ r₁ q₁ x₁ h₁ => (ofOpt_some h₁).elim fun i e => ?_
    obtain ⟨t, rfl⟩ := Rd.int_inv (intOf_inv e.1 ▸ x₁)
    exact e.2.done hR q₁ (keeps_refl _) (.int _ t)

theorem arm_slice {v : Expr} {lo hi st : Option Expr} {pos pos' : Pos} (hR : IsR H0 pa R) (ih : IhF prog w A H0 XP C R oa pa env ρ n) (S : St H0 A env oa pa ρ p s)
    (h : GPost H0 XP R pa (Rd (pens pa)) Q E s ((evP n C false ρ p v).bind fun d p => (partP (evP n C false ρ) lo p).bind fun a p => (partP (evP n C false ρ) hi p).bind fun b p => (partP (evP n C false ρ) st p).bind fun c p =>
        Res.ofOpt p (sliceP d a b c))) : wpAny (model prog w) A (eval (.Subscript v (.Slice lo hi st pos') pos) env) Q E s :=
  Subscript_any (seq hR (ih S v · E) h fun o d p₁ s₁ r₁ q₁ x₁ h₁ => have S₁ := S.step hR r₁ q₁
    wpAny_Slice (seq hR (fun Q => part_sound hR ih S₁) h₁ fun vl a p₂ s₂ r₂ q₂ x₂ h₂ => have S₂ := S₁.step hR r₂ q₂
      seq hR (fun Q => part_sound hR ih S₂) h₂ fun vu b p₃ s₃ r₃ q₃ x₃ h₃ => seq hR (fun Q => part_sound hR ih (S₂.step hR r₃ q₃)) h₃ fun vt c p₄ s₄ r₄ q₄ x₄ h₄ =>
        (ofOpt_end h₄).elim fun d' e => slice_sound q₄.old (x₁.keep (hR.keepS (hR.trans r₂ (hR.trans r₃ r₄))) fun _ q => q) x₂ x₃ x₄ e.1 fun v s' k rv => e.2.done hR q₄ k rv))

theorem arm_sub {v i : Expr} {pos : Pos} (hR : IsR H0 pa R) (ih : IhF prog w A H0 XP C R oa pa env ρ n) (S : St H0 A env oa pa ρ p s)
    (h : GPost H0 XP R pa (Rd (pens pa)) Q E s ((evP n C false ρ p v).bind fun d p => (evP n C false ρ p i).bind fun k p => Res.ofOpt p (subP d k))) : wpAny (model prog w) A (eval (.Subscript v i pos) env) Q E s :=
  Subscript_any (seq hR (ih S v · E) h fun o d p₁ s₁ r₁ q₁ x₁ h₁ => seq hR (ih (S.step hR r₁ q₁) i · E) h₁ fun k e p₂ s₂ r₂ q₂ x₂ h₂ =>
    (ofOpt_end h₂).elim fun d' e => sub_sound (x₁.keep (hR.keepS r₂) fun _ q => q) x₂ e.1 fun v s' k rv => e.2.done hR q₂ k rv)

theorem arm_pen {x : Str} {px pos cp : Pos} {ck : Nat} (hR : IsR H0 pa R) (S : St H0 A env oa pa ρ p s) (hl : look ρ x = some .pen)
    (h : GPost H0 XP R pa (Rd (pens pa)) Q E s (penRes p)) : wpAny (model prog w) A (eval (.Subscript (.Name x px) (.Constant (.int 0) ck cp) pos) env) Q E s := by
  refine Classical.byContradiction fun hn => S.fr.names.elim fun m hm => (hm.2 _ _ hl).2.elim fun a y => ?_
  obtain rfl := y.1
  have q := S.pen
  cases p with
  | none => exact h.elim
  | some k => exact q.1.elim fun t l => hn (Subscript_any (wpAny_Name (wpAny_loadName_local S.fr.kind (hm.2 _ _ hl).1 hm.1 y.2 (wpAny_Constant_int ⟨"list", _, slot_list_getitem.lookup, l.imp fun o x => ⟨x.1, x.2.1⟩,
      wpAny_getItem_list (s := { s with toks := s.toks + 1 }) l (by decide) (by decide) rfl (h.done hR q (keeps_toks ..) (.int ..))⟩)) (S.fr.nodebug _ _ hl)))

theorem look_quiet (ρ : Loc) (x : Str) : look (quietLoc ρ) x = (look ρ x).map quietLV := by
  unfold look quietLoc
  induction ρ with
  | nil => rfl
  | cons e r ih =>
    obtain ⟨y, l⟩ := e
    simp only [List.map_cons, List.lookup_cons]
    cases x == y with
    | true => rfl
    | false => exact ih

theorem quiet_no {b : Addr} (h : Ow oa none (quietLoc ρ) b) : False := by
  rcases h with h | ⟨y, ys, hy, _⟩
  · cases h
  · rw [look_quiet] at hy
    obtain ⟨ly, _, e⟩ := Option.map_eq_some_iff.mp hy
    cases ly <;> cases e
theorem St.quiet (S : St H0 A env oa pa ρ p s) : St H0 A env oa none (quietLoc ρ) none s := by
  have f := S.fr
  refine ⟨S.stays, ⟨f.kind, f.glob, f.blt, fun x lv hx => ?_, nofun, f.names.imp fun m hm => ⟨hm.1, fun x lv hx => ?_⟩⟩, trivial, S.ff⟩
  · rw [look_quiet] at hx
    exact (Option.map_eq_some_iff.mp hx).elim fun lv' e => f.nodebug x lv' e.1
  · rw [look_quiet] at hx
    obtain ⟨lv', hx', rfl⟩ := Option.map_eq_some_iff.mp hx
    have n := hm.2 x lv' hx'
    cases lv' with
    | val d => exact ⟨n.1, n.2.imp fun v b => ⟨b.1, b.2.wider fun b q _ => (quiet_no q).elim⟩⟩
    | cell d => exact n.imp fun c n => n.imp fun v b => ⟨b.1, b.2.1, b.2.2.1, b.2.2.2.1.wider fun b q _ => (quiet_no q).elim, nofun⟩
    | own xs => exact n.1
    | pen => exact n.1
    | unb => exact n
    | glob => exact n

/-! a written dict -/
noncomputable def DictIs (kvs : List (Str × Value)) (ps : List (Str × Int)) : Prop := ∃ ts : List Tok, kvs = (ps.zip ts).map (fun q => (q.1.1, Value.int q.1.2 q.2)) ∧ ts.length = ps.length

theorem asConst_inv {e : Expr} {c : Const × Nat × Pos} (h : asConst e = some c) : e = .Constant c.1 c.2.1 c.2.2 := val_inv (o := (vw e).cn) h
theorem constKey_inv {k : Option Expr} {x : Str} (h : constKey k = some x) : ∃ a b, k = some (.Constant (.str x) a b) := by
  cases k with
  | none => cases h
  | some e => exact bind_go h fun c hc h => ⟨c.2.1, c.2.2, by rw [asConst_inv hc, strC_inv h]⟩
theorem constInt_inv {e : Expr} {i : Int} (h : constInt e = some i) : ∃ a b, e = .Constant (.int i) a b :=
  bind_go h fun c hc h => ⟨c.2.1, c.2.2, by rw [asConst_inv hc, intC_inv h]⟩
theorem evalPairs_const {pos : Pos} : ∀ (ks : List (Option Expr)) {vs : List Expr} {ps : List (Str × Int)} {s : Shared} {Q : List (Value × Value) → Shared → Prop}, constPairs ks vs = some ps →
    (∀ out kvs k, Carries (strKind prog w) out kvs → DictIs kvs ps → Q out { s with toks := k }) →
    ∃ pairs : List (Sem Value × Sem Value), (evalEachOpt ks env).zip ((evalEach vs env).map fun v => do let x ← v; standAt pos; pure x) = pairs.map (fun p => (some p.1, p.2)) ∧ pairs.length = ps.length ∧ wpAny (model prog w) A (evalPairs pairs) Q E s := by
  intro ks
  induction ks with
  | nil =>
    intro vs ps s Q h hQ
    cases vs with
    | nil => cases h; exact ⟨[], rfl, rfl, evalPairs_nil (hQ [] [] s.toks trivial ⟨[], rfl, rfl⟩)⟩
    | cons _ _ => cases h
  | cons k0 ks ih =>
    intro vs ps s Q h hQ
    cases vs with
    | nil => cases h
    | cons v vs =>
    refine bind_go h fun k hk h1 => bind_go h1 fun i hi h2 => bind_go h2 fun r hr h3 => ?_
    clear h h1 h2
    obtain ⟨a, b, rfl⟩ := constKey_inv hk
    obtain ⟨a', b', rfl⟩ := constInt_inv hi
    cases h3
    refine (ih (s := { s with toks := s.toks + 1 + 1 }) (Q := fun vs s₃ => Q ((.str k s.toks, .int i (s.toks + 1)) :: vs) s₃) hr fun out kvs t hc hd => hQ _ ((k, .int i (s.toks + 1)) :: kvs) t ⟨strKind_is .., rfl, hc⟩ ?_).elim fun pairs e => ?_
    · exact hd.elim fun ts e => ⟨(s.toks + 1) :: ts, congrArg (_ :: ·) e.1, congrArg (· + 1) e.2⟩
    · refine ⟨(eval (.Constant (.str k) a b) env, (do let x ← eval (.Constant (.int i) a' b') env; standAt pos; pure x)) :: pairs, congrArg (_ :: ·) e.1, congrArg (· + 1) e.2.1, ?_⟩
      exact evalPairs_cons (wpAny_Constant_str (wpAny_bind (wpAny_Constant_int (wpAny_bind (wpAny_standAt (wpAny_pure e.2.2))))))

theorem distinct_nodup {l : List Str} : distinct l = true → l.Nodup := by
  induction l with
  | nil => exact fun _ => .nil
  | cons x r ih =>
    intro h
    have h := Bool.and_eq_true_iff.mp h
    refine List.nodup_cons.mpr ⟨fun m => ?_, ih h.2⟩
    have q := h.1
    rw [List.contains_iff_mem.mpr m] at q; cases q

theorem dictIs_keys {kvs : List (Str × Value)} {ps : List (Str × Int)} (h : DictIs kvs ps) : kvs.map (·.1) = ps.map (·.1) := by
  obtain ⟨ts, rfl, ht⟩ := h
  induction ps generalizing ts with
  | nil => simp
  | cons q ps ih =>
    cases ts with
    | nil => cases ht
    | cons t ts => simp only [List.zip_cons_cons, List.map_cons]; rw [ih ts (by simpa using ht)]
theorem dictIs_at {kvs : List (Str × Value)} {ps : List (Str × Int)} {x : Str} {i : Int} (h : DictIs kvs ps) (hf : (ps.find? fun q => decide (q.1 = x)).map (·.2) = some i) : ∃ t, valueAt kvs x = some (.int i t) := by
  obtain ⟨ts, rfl, ht⟩ := h
  induction ps generalizing ts with
  | nil => simp at hf
  | cons q ps ih =>
    cases ts with
    | nil => cases ht
    | cons t ts =>
      unfold valueAt at ih ⊢
      simp only [List.zip_cons_cons, List.map_cons, List.find?_cons] at hf ⊢
      by_cases hq : q.1 = x
      · simp only [hq, decide_true, Option.map_some, Option.some.injEq] at hf ⊢
        subst hf
        exact ⟨t, rfl⟩
      · simp only [hq, decide_false] at hf ⊢
        exact ih hf ts (by simpa using ht)

theorem arm_dict {ks : List (Option Expr)} {vs : List Expr} {dp pos : Pos} {i : Expr} (hR : IsR H0 pa R) (ih : ∀ {C R oa pa env ρ}, CallOK prog w A H0 mg XP C R pa → IsR H0 pa R → IhF prog w A H0 XP C R oa pa env ρ n) (S : St H0 A env oa pa ρ p s)
    (h : GPost H0 XP R pa (Rd (pens pa)) Q E s ((evP n quietC false (quietLoc ρ) none i).calm.bind fun k _ => (Res.ofOpt p (strOf k)).bind fun x p => Res.ofOpt p (dictP ks vs x))) : wpAny (model prog w) A (eval (.Subscript (.Dict ks vs dp) i pos) env) Q E s := by
  refine Classical.byContradiction fun hn => ?_
  obtain ⟨k, p₁, hk, h₁⟩ := calm_ok h
  obtain ⟨x, hx, h₁⟩ := ofOpt_some h₁
  obtain rfl := strOf_inv hx
  obtain ⟨d, hd, h₁⟩ := ofOpt_end h₁
  refine bind_go hd fun ps hps hd => ?_
  have hc := only_inv hd
  have hc1 := Bool.and_eq_true_iff.mp hc.1
  have hc2 := Bool.and_eq_true_iff.mp hc1.1
  obtain ⟨q, hq, rfl⟩ := Option.map_eq_some_iff.mp hc.2
  refine hn (Subscript_any ?_)
  obtain ⟨pairs, e, hl, hw⟩ := evalPairs_const (prog := prog) (w := w) (A := A) (E := E) (env := env) (pos := dp) ks (s := { s with heap := s.heap.push { cls := .type "dict", data := .dict #[] } }) (Q := fun vs s₁ => ∃ kvs, Carries (strKind prog w) vs kvs ∧ s₁.heap.DictOf (strKind prog w) s.heap.objs.size [] ∧
      ∀ h', h'.DictOf (strKind prog w) s.heap.objs.size (merged [] kvs) → Heap.SameBut s.heap.objs.size s₁.heap h' → (fun o s₁ => wpAny (model prog w) A (eval i env) (fun i s₂ => ∃ T id, typeLookup (.type T) "__getitem__" = pure (some (.builtin id)) ∧ s₂.TypeIs o T ∧ wpAny (model prog w) A (getItem o i) Q E s₂) E s₁) (.ref s.heap.objs.size) { s₁ with heap := h', toks := s₁.toks + vs.length }) hps (fun out kvs t hcar hdi => ⟨kvs, hcar, Heap.DictOf.new s.heap, fun h' hdo hsb => by
      rw [merged_append_of_fresh [] kvs (by rw [List.nil_append, dictIs_keys hdi]; exact distinct_nodup hc2.1), List.nil_append] at hdo
      have k1 : Keeps s { s with heap := h', toks := t + out.length } := ⟨h', _, rfl, fun b o e => hsb.extBut b o (Nat.ne_of_lt (Heap.lt_size e)) (Heap.get?_push_of_some _ e)⟩
      refine ih (.inl fun _ _ _ => rfl) (isR_quiet H0) (S.step hR (hR.keeps k1) (S.pen.exact k1)).quiet i _ E (hk ▸ fun v s₂ r₂ q₂ x₂ => ?_)
      refine x₂.str_inv.elim fun tv ht => ?_
      subst ht
      have hdo₂ : s₂.heap.DictOf (strKind prog w) s.heap.objs.size kvs := hdo.imp fun o x => x.imp fun es x => x.imp fun ep x => ⟨keeps_exact r₂ _ _ x.1, x.2⟩
      exact (dictIs_at (i := q.2) hdi (by rw [hq]; rfl)).elim fun ti hv => ⟨"dict", _, slot_dict_getitem.lookup, hdo₂.typeIs, wpAny_getItem_of (strKind_is ..) hdo₂.mapOf hv (h₁.done hR S.pen (keeps_trans (keeps_trans k1 r₂) (keeps_toks ..)) (.int ..))⟩⟩)
  refine wpAny_Dict_pairs (knd := strKind prog w) e (fun z => ?_) (by rw [hl]; exact of_decide_eq_true hc2.2) hw
  rw [z] at hl
  have hz : ps = [] := List.length_eq_zero_iff.mp hl.symm
  have h2 := hc1.2
  rw [hz] at h2
  cases h2
end
end Mine

set_option linter.all false
namespace Mine
open PySem PySem.W PyProof.Rows

noncomputable def plainIter (n : String) : Bool := ["list_iterator", "str_iterator", "str_ascii_iterator", "range_iterator"].contains n
/-- an iterator's own object -/
noncomputable def IterAt (h : Heap) (b : Addr) : Prop := ∃ o n vs, h.get? b = some o ∧ o.cls = .type n ∧ plainIter n = true ∧ o.data = .fields vs

inductive ItOK (prog : Program) (w : World) (A : Around) (W : Addr → Prop) (s₁ s₂ : Shared) (it : Value) (items : List PyData) : Prop
  | mk (I : Addr) (fp wr : List Addr) (P : Nat → Value → Prop) (St : Nat → Heap → Prop) : it = .ref I → Walks prog w A I fp wr items.length P St → St 0 s₂.heap → (∀ b ∈ fp, b < s₂.heap.objs.size) → (∀ b ∈ wr, s₁.heap.get? b = none) →
    (∀ b ∈ fp, b ∈ wr ∨ ((∃ o, s₁.heap.get? b = some o ∧ o.cls ≠ .type "frame") ∧ ¬ W b)) → (∀ i h, St i h → ∀ b ∈ wr, IterAt h b) → I ∈ wr → (∀ i v, P i v → ∃ d, items[i]? = some d ∧ Rd W s₁.heap v d) → ItOK prog w A W s₁ s₂ it items

theorem walks_bound {prog : Program} {w : World} {A : Around} {I : Addr} {fp wr : List Addr} {n : Nat} {P : Nat → Value → Prop} {St : Nat → Heap → Prop} (W : Walks prog w A I fp wr n P St) : Walks prog w A I fp wr n (fun i v => i < n ∧ P i v) St where
  sub := W.sub
  frame := W.frame
  item := fun i s Q E hi st hQ => W.item i s Q E hi st fun v h' tk hv => hQ v h' tk ⟨hi, hv⟩
  done := W.done
  self := W.self

section
variable {prog : Program} {w : World} {A : Around} {E : Value → Shared → Prop} {s : Shared} {W : Addr → Prop} {K : Value → Shared → Prop}

theorem get_size (h : Heap) : h.get? h.objs.size = none := by
  cases e : h.get? h.objs.size with
  | none => rfl
  | some o => exact absurd (Heap.lt_size e) (Nat.lt_irrefl _)

theorem mem_1 {p : Addr → Prop} {a : Addr} (h : p a) : ∀ b ∈ [a], p b := mem_cns h fun _ m => by cases m
theorem pyIter_sound {xv : Value} {d : PyData} {items : List PyData} (hh : A.handled = none) (rx : Rd W s.heap xv d) (hi : itemsOf d = some items)
    (k : ∀ s₂ it, Keeps s s₂ → ItOK prog w A W s s₂ it items → K it s₂) : wpAny (model prog w) A (pyIter xv) K E s := by
  refine Classical.byContradiction fun hn => ?_
  cases d with
  | list xs =>
    cases hi
    obtain ⟨a, vs, rfl, hl, rl, hw⟩ := rx.list_inv
    have hlen : vs.size = items.length := rl.length
    have ha : a < s.heap.objs.size := hl.elim fun o x => Heap.lt_size x.1
    have e : (s.heap.push { cls := .type "list_iterator", data := .fields #[.ref a, .int 0 0] }).objs.size = s.heap.objs.size + 1 := Heap.size_push ..
    have hW := Walks.list (prog := prog) (w := w) (A := A) hh s.heap.objs.size a (Nat.ne_of_lt ha) vs
    rw [hlen] at hW
    refine hn (wpAny_pyIter_list hl (k _ _ (keeps_push s _) (.mk _ _ _ _ _ rfl hW ⟨⟨_, Heap.get?_push_size _ rfl, rfl, rfl⟩, isList_exact hl (keeps_exact (keeps_push s _))⟩
      (mem_cns (e ▸ Nat.lt_succ_self _) (mem_1 (e ▸ Nat.lt_succ_of_lt ha))) (mem_1 (get_size _)) (mem_cns (.inl (List.mem_singleton.mpr rfl)) (mem_1 (.inr ⟨hl.imp fun o x => ⟨x.1, cls_ne x.2.1 (by decide)⟩, hw⟩)))
      (fun i h x => mem_1 (x.1.elim fun o x => ⟨o, _, _, x.1, x.2.1, by decide, x.2.2⟩)) (List.mem_singleton.mpr rfl) fun i v hv => rl.at' (k := i) (v := v) (by rw [Array.getElem?_toList]; exact hv))))
  | str x =>
    cases hi
    obtain ⟨t, rfl⟩ := rx.str_inv
    have hlen : (charsOf x).length = x.cps.size := List.length_map ..
    have fin : ∀ (T : String) (o : Obj), plainIter T = true → (s.heap.push o).IsStrIter s.heap.objs.size T x t 0 → Walks prog w A s.heap.objs.size [s.heap.objs.size] [s.heap.objs.size] x.cps.size (SignAt x) (fun i h => h.IsStrIter s.heap.objs.size T x t i) →
        K (.ref s.heap.objs.size) { s with heap := s.heap.push o } := fun T o hT hst hW =>
      k _ _ (keeps_push s o) (.mk _ _ _ _ _ rfl (hlen ▸ hW) hst (mem_1 (hst.elim fun o x => Heap.lt_size x.1)) (mem_1 (get_size _)) (fun b hb => .inl hb) (fun i h x => mem_1 (x.elim fun o x => ⟨o, _, _, x.1, x.2.1, hT, x.2.2⟩)) (List.mem_singleton.mpr rfl)
        fun i v x => x.elim fun c x => x.elim fun u x => ⟨.str ⟨#[c]⟩, by unfold charsOf; rw [List.getElem?_map, Array.getElem?_toList, x.1]; rfl, x.2 ▸ .str ..⟩)
    cases ha : x.cps.all (· < 128)
    · exact hn (wpAny_pyIter_wide ha (fin "str_iterator" _ (by decide) ⟨_, Heap.get?_push_size _ rfl, rfl, rfl⟩ (Walks.strWide hh _ x t)))
    · exact hn (wpAny_pyIter_ascii ha (fin "str_ascii_iterator" _ (by decide) ⟨_, Heap.get?_push_size _ rfl, rfl, rfl⟩ (Walks.strAscii hh _ x t)))
  | _ => cases hi

theorem small_mine {a b : Int} (ha : 0 ≤ a) (ha' : a ≤ 100000) (hb : -(2 ^ 63) ≤ b) (hb' : b ≤ 100000) : Builtin.Range.small a b 1 = true := by
  unfold Builtin.Range.small
  rw [rangeSize_one]
  simp only [Builtin.Range.rangeFitsLong, Bool.and_eq_true, Bool.or_eq_true, decide_eq_true_eq, beq_iff_eq, show (1 : Int) > 0 by decide, if_true]
  split <;> lia

theorem range_fin {a : Int} {n : Nat} {s₁ : Shared} {items : List PyData} (hh : A.handled = none) (hk : Keeps s s₁) (hsz : s.heap.objs.size ≤ s₁.heap.objs.size) (hn : intsUp a n = items) (k : ∀ s₂ it, Keeps s s₂ → ItOK prog w A W s s₂ it items → K it s₂) :
    K (.ref s₁.heap.objs.size) { s₁ with heap := s₁.heap.push { cls := .type "range_iterator", data := .fields #[rawInt a, rawInt n, rawInt 1] } } := by
  have hlen : items.length = n := by rw [← hn]; simp [intsUp]
  have e : (s₁.heap.push { cls := .type "range_iterator", data := .fields #[rawInt a, rawInt n, rawInt 1] }).objs.size = s₁.heap.objs.size + 1 := Heap.size_push ..
  have e1 : a + ((0 : Nat) : Int) * 1 = a := by simp
  have e2 : (n : Int) - ((0 : Nat) : Int) = n := by simp
  refine k _ _ (keeps_trans hk (keeps_push s₁ _)) (.mk _ _ _ _ _ rfl (walks_bound (hlen.symm ▸ Walks.range (prog := prog) (w := w) (A := A) hh s₁.heap.objs.size a 1 n)) (by rw [hlen, e1, e2]; exact Heap.get?_push_size _ rfl) (mem_1 (e ▸ Nat.lt_succ_self _))
    (mem_1 (Option.eq_none_iff_forall_ne_some.mpr fun o e => Nat.lt_irrefl _ (Nat.lt_of_lt_of_le (Heap.lt_size e) hsz))) (fun b hb => .inl hb) (fun i h x => mem_1 ⟨_, _, _, x, rfl, by decide, rfl⟩) (List.mem_singleton.mpr rfl) fun i v x => x.2.elim fun t x' => ⟨.int (a + (i : Int)), ?_, ?_⟩)
  · rw [← hn]
    unfold intsUp
    rw [List.getElem?_map, List.getElem?_range (hlen ▸ x.1)]
    rfl
  · rw [x', Int.mul_one]
    exact .int ..
theorem range_size (a b : Int) : Builtin.Range.rangeSize a b 1 = ((b - a).toNat : Int) := by rw [rangeSize_one]; split <;> lia
theorem range_sound {vs : List Value} {ds items : List PyData} (hh : A.handled = none) (r : Rds W s.heap vs ds) (hi : rangeP ds = some items)
    (k : ∀ s₂ it, Keeps s s₂ → ItOK prog w A W s s₂ it items → K it s₂) : wpAny (model prog w) A (call (.type "range") vs) (fun xv s₁ => wpAny (model prog w) A (pyIter xv) K E s₁) E s := by
  refine Classical.byContradiction fun hn => ?_
  unfold rangeP at hi
  cases h1 : one ds with
  | some a =>
    rw [h1] at hi
    refine bind_go hi fun n hn' hi => ?_
    have hc := only_inv hi
    cases hc.2
    have q := Bool.and_eq_true_iff.mp hc.1
    obtain ⟨v, rfl, ra⟩ := rds_one (one_inv h1 ▸ r)
    obtain ⟨t, rfl⟩ := Rd.int_inv (intOf_inv hn' ▸ ra)
    refine hn (call_range_1 (wpAny_pyIter_range (IsRange.new ..) (small_mine (by decide) (by decide) (of_decide_eq_true q.2) (of_decide_eq_true q.1)) ?_))
    rw [range_size, Int.sub_zero]
    exact range_fin (s₁ := { s with heap := s.heap.push _, toks := _ }) hh (keeps_push' ..) (by rw [Heap.size_push]; exact Nat.le_succ _) rfl k
  | none =>
    rw [h1] at hi
    refine bind_go hi fun ab h2 hi => bind_go hi fun a ha hi => bind_go hi fun b hb hi => ?_
    have hc := only_inv hi
    cases hc.2
    have q := Bool.and_eq_true_iff.mp hc.1
    have q1 := Bool.and_eq_true_iff.mp q.1
    have q2 := Bool.and_eq_true_iff.mp q1.1
    obtain ⟨v, u, rfl, ra, rb⟩ := rds_two (two_inv h2 ▸ r)
    obtain ⟨t, rfl⟩ := Rd.int_inv (intOf_inv ha ▸ ra)
    obtain ⟨u, rfl⟩ := Rd.int_inv (intOf_inv hb ▸ rb)
    refine hn (call_range_2 (wpAny_pyIter_range (IsRange.new ..) (small_mine (of_decide_eq_true q2.1) (of_decide_eq_true q2.2) (of_decide_eq_true q.2) (of_decide_eq_true q1.2)) ?_))
    rw [range_size]
    exact range_fin (s₁ := { s with heap := s.heap.push _, toks := _ }) hh (keeps_push' ..) (by rw [Heap.size_push]; exact Nat.le_succ _) rfl k
end
end Mine

set_option linter.all false
namespace Mine
open PySem PySem.W PyProof.Rows

section
variable {prog : Program} {w : World} {A : Around} {H0 : Heap} {mg mb : Str → Option Value} {XP : Heap → Heap → Value → Exc → Prop}
variable {C : CallP} {R : Shared → Shared → Prop} {oa : Str → Addr} {pa : Option Addr} {env : Env} {ρ : Loc} {p : Option Int} {s : Shared} {E : Value → Shared → Prop} {n : Nat} {Q : Value → Shared → Prop}

theorem asCall_inv {e : Expr} {c : Expr × List Expr × Pos} (h : asCall e = some c) : e = .Call c.1 c.2.1 [] c.2.2 := val_inv (o := (vw e).ca) h
theorem asCallN_inv {e : Expr} {c : Str × Pos × List Expr × Pos} (h : asCallN e = some c) : e = .Call (.Name c.1 c.2.1) c.2.2.1 [] c.2.2.2 :=
  bind_go h fun d hd h => bind_go h fun f hf h => by
    rw [asCall_inv hd, asName_inv hf, ← Option.some.inj h]
theorem bind_assoc {β γ δ : Type} {r : Res β} {f : β → Option Int → Res γ} {g : γ → Option Int → Res δ} : (r.bind f).bind g = r.bind fun a p => (f a p).bind g := by
  cases r <;> rfl
theorem calm_assoc {β γ δ : Type} {r : Res β} {f : β → Option Int → Res γ} {g : γ → Option Int → Res δ} : (r.calm.bind f).bind g = r.calm.bind fun a p => (f a p).bind g := by
  cases r <;> rfl
theorem rng_call {args : List Expr} {fp pos : Pos} {f : Str} (G : Glo H0 mg mb) (S : St H0 A env oa pa ρ p s) (hl : look ρ f = some .glob) (hf : (f == ("range" : Str)) = true) (hst : noStar args) (hne : args ≠ [])
    (h : wpAny (model prog w) A (spliced (backTo pos (starEach args env))) (fun vs s₁ => wpAny (model prog w) A (call (.type "range") vs) Q E s₁) E s) : wpAny (model prog w) A (eval (.Call (.Name f fp) args [] pos) env) Q E s := by
  obtain rfl := eq_of_beq hf
  have g := G.boot "range" (by decide)
  refine wpAny_Call_NameR (globB_sound G S hl g.1 (g.2.trans Boot.«range») ?_)
  cases args with
  | nil => exact absurd rfl hne
  | cons e rest => exact PyProof.Rows.callWith_type1 h (starEach_cons (hst e (.head _))) (backTo_any fun x m => hst x (.tail _ m))
theorem rangeP_ne {ds items : List PyData} (h : rangeP ds = some items) : ds ≠ [] := fun e => by rw [e] at h; cases h
theorem ne_of_len {es : List Expr} {ds : List PyData} (h : ds.length = es.length) (n : ds ≠ []) : es ≠ [] := fun e => n (List.eq_nil_of_length_eq_zero (by rw [h, e]; rfl))

/-- the items of a comprehension's head, an iterator over them -/
theorem iter_sound {α γ : Type} {V' : Heap → α → γ → Prop} {Q : α → Shared → Prop} {f : List PyData → Option Int → Res γ} {K : Value → Shared → Prop} {iter : Expr} (G : Glo H0 mg mb) (hh : A.handled = none) (hR : IsR H0 pa R) (ih : IhF prog w A H0 XP C R oa pa env ρ n)
    (S : St H0 A env oa pa ρ p s) (h : GPost H0 XP R pa V' Q E s ((iterP (evP n C false ρ) ρ p iter).bind f))
    (k : ∀ items p₁ s₁ s₂ it, R s s₁ → PenAt H0 pa p₁ s₁.heap → Keeps s₁ s₂ → ItOK prog w A (pens pa) s₁ s₂ it items → GPost H0 XP R pa V' Q E s₁ (f items p₁) → K it s₂) :
    wpAny (model prog w) A (eval iter env) (fun xv s₁ => wpAny (model prog w) A (pyIter xv) K E s₁) E s := by
  unfold iterP at h
  cases hc : rngCall iter with
  | none =>
    rw [hc] at h
    have h' : GPost H0 XP R pa V' Q E s ((evP n C false ρ p iter).bind fun d p => (Res.ofOpt p (itemsOf d)).bind f) := by
      rw [← bind_assoc]; exact h
    exact seq hR (ih S iter · E) h' fun v d p₁ s₁ r₁ q₁ x₁ h₁ => (ofOpt_some h₁).elim fun items e => pyIter_sound hh x₁ e.1 fun s₂ it kk io => k items p₁ s₁ s₂ it r₁ q₁ kk io e.2
  | some c =>
    rw [hc] at h
    refine bind_go hc fun c' hc' h' => ?_
    have hf := only_inv h'
    cases hf.2
    have hg : GPost H0 XP R pa V' Q E s (Res.when (isGlobL (look ρ c.1)) ((evalsP (evP n C false ρ) c.2.2.1 p).calm.bind fun ds p => (Res.ofOpt p (rangeP ds)).bind f)) := by
      have h : GPost H0 XP R pa V' Q E s ((Res.when (isGlobL (look ρ c.1)) ((evalsP (evP n C false ρ) c.2.2.1 p).calm.bind fun ds p => Res.ofOpt p (rangeP ds))).bind f) := h
      cases hl : isGlobL (look ρ c.1) with
      | false => rw [hl] at h; exact h
      | true => rw [hl] at h; exact calm_assoc ▸ h
    have hg := when_ok hg
    refine (calm_ok hg.2).elim fun ds e => e.elim fun p₁ e => (ofOpt_some e.2).elim fun items e₂ => ?_
    have ok := evals_ok e.1
    rw [asCallN_inv hc']
    exact rng_call G S (isGlobL_inv hg.1) hf.1 ok.1 (ne_of_len ok.2 (rangeP_ne e₂.1)) (evals_sound hR ih S (e.1 ▸ fun vs s' r' q' x' => range_sound hh x' e₂.1 fun s₂ it kk io => k items p₁ s' s₂ it r' q' kk io (e₂.2.from hR r')))

/-! the comprehension's own frame -/
noncomputable def closeFold (env : Env) : List (Str × NameKind) → List (Str × Addr) → List (Str × Addr)
  | [], acc => acc
  | (y, k) :: r, acc => closeFold env r (if k == .free then (y, (env.cells.lookup y).getD 0) :: acc else acc)
theorem closure_eq {scope : Scope} (h : ∀ y ∈ scope.names, y.2 = .free → ∃ c, env.cells.lookup y.1 = some c) : closureFor scope env = pure (closeFold env scope.names []) := by
  unfold closureFor
  have key : ∀ (l : List (Str × NameKind)) (acc : List (Str × Addr)), (∀ y ∈ l, y.2 = .free → ∃ c, env.cells.lookup y.1 = some c) →
      (forIn l acc fun (x : Str × NameKind) (r : List (Str × Addr)) => (match x with
        | (name, kind) => if (kind == NameKind.free) = true then do
            let __do_lift ← cellOf env name
            pure (ForInStep.yield ((name, __do_lift) :: r))
          else pure (ForInStep.yield r) : Sem (ForInStep (List (Str × Addr))))) = pure (closeFold env l acc) := by
    intro l
    induction l with
    | nil => intro acc _; rfl
    | cons y r ih =>
      intro acc hl
      obtain ⟨n, k⟩ := y
      rw [List.forIn_cons]
      cases hk : k == NameKind.free with
      | true =>
        obtain ⟨c, hc⟩ := hl (n, k) (.head _) (eq_of_beq hk)
        have e : cellOf env n = pure c := by unfold cellOf; rw [hc]
        simp only [hk, if_true, e, pure_bind, closeFold, hc, Option.getD_some]
        exact ih _ fun y m => hl y (.tail _ m)
      | false =>
        simp only [hk, if_false, Bool.false_eq_true, pure_bind, closeFold]
        exact ih _ fun y m => hl y (.tail _ m)
  have := key scope.names [] h
  simp only [this, pure_bind]

theorem closeFold_spec (env : Env) (l : List (Str × NameKind)) : ∀ acc : List (Str × Addr), (∀ y ∈ l, y.2 = .free → ∃ c, env.cells.lookup y.1 = some c) → (∀ x c, acc.lookup x = some c → env.cells.lookup x = some c) →
    (∀ x c, (closeFold env l acc).lookup x = some c → env.cells.lookup x = some c) ∧ ∀ x, ((∃ c, acc.lookup x = some c) ∨ (x, NameKind.free) ∈ l) → ∃ c, (closeFold env l acc).lookup x = some c := by
  induction l with
  | nil => exact fun acc _ ha => ⟨ha, fun x h => h.elim id fun m => (nomatch m)⟩
  | cons y r ih =>
    obtain ⟨y, k⟩ := y
    intro acc h ha
    have h' : ∀ y ∈ r, y.2 = .free → ∃ c, env.cells.lookup y.1 = some c := fun y m => h y (.tail _ m)
    unfold closeFold
    cases hk : k == NameKind.free with
    | true =>
      obtain ⟨c, hc⟩ := h (y, k) (.head _) (eq_of_beq hk)
      rw [if_pos rfl, hc]
      have z := ih ((y, c) :: acc) h' fun x c' e => by
        rw [List.lookup_cons] at e
        cases hx : x == y with
        | true => rw [hx] at e; obtain rfl := eq_of_beq hx; cases e; exact hc
        | false => rw [hx] at e; exact ha x c' e
      refine ⟨z.1, fun x hx => z.2 x ?_⟩
      rw [List.lookup_cons]
      cases hxy : x == y with
      | true => exact .inl ⟨c, rfl⟩
      | false => exact hx.imp id fun m => (List.mem_cons.mp m).elim (fun e => by cases e; rw [beq_self_eq_true] at hxy; cases hxy) id
    | false =>
      have z := ih acc h' ha
      refine ⟨z.1, fun x hx => z.2 x (hx.imp id fun m => (List.mem_cons.mp m).elim (fun e => ?_) id)⟩
      cases e; cases hk
end
end Mine

set_option linter.all false
namespace Mine
open PySem PySem.W PyProof.Rows

section
variable {prog : Program} {w : World} {A : Around} {H0 : Heap} {mg mb : Str → Option Value} {XP : Heap → Heap → Value → Exc → Prop}
variable {C : CallP} {R : Shared → Shared → Prop} {oa : Str → Addr} {pa : Option Addr} {env : Env} {ρ : Loc} {p : Option Int} {s : Shared} {E : Value → Shared → Prop} {n : Nat} {Q : Value → Shared → Prop}

theorem lookup_relabel {env : Env} {x : Str} {k : NameKind} {names : List (Str × NameKind)} : names.lookup x = some k →
    (names.map fun (n, k) => if (k == NameKind.free && env.scope.kind == .function && env.kindOf n == some .cell) then (n, NameKind.cell) else (n, k)).lookup x = some (if (k == NameKind.free && env.scope.kind == .function && env.kindOf x == some .cell) then .cell else k) := by
  induction names with
  | nil => exact fun h => no_some h
  | cons yj r ih =>
    intro h
    obtain ⟨y, j⟩ := yj
    rw [List.map_cons]
    rw [List.lookup_cons] at h
    cases hx : x == y with
    | true =>
      rw [hx] at h
      obtain rfl := eq_of_beq hx
      cases h
      dsimp only
      split <;> rw [List.lookup_cons, hx]
    | false =>
      rw [hx] at h
      dsimp only
      split <;> (rw [List.lookup_cons, hx]; exact ih h)

theorem look_filterMap {f : Str × NameKind → Option (Str × LV)} (hf : ∀ y z, f y = some z → z.1 = y.1) {l : List (Str × NameKind)} {x : Str} {lv : LV} : look (l.filterMap f) x = some lv → ∃ k, (x, k) ∈ l ∧ f (x, k) = some (x, lv) := by
  induction l with
  | nil => exact fun h => no_some h
  | cons y r ih =>
    intro h
    have ih' (h : look (r.filterMap f) x = some lv) : ∃ k, (x, k) ∈ y :: r ∧ f (x, k) = some (x, lv) := (ih h).imp fun k e => ⟨.tail _ e.1, e.2⟩
    cases hy : f y with
    | none => rw [List.filterMap_cons_none hy] at h; exact ih' h
    | some z =>
      rw [List.filterMap_cons_some hy] at h
      unfold look at h
      have hz := hf y z hy
      obtain ⟨z1, z2⟩ := z
      rw [List.lookup_cons] at h
      cases hx : x == z1 with
      | true =>
        rw [hx] at h; cases h
        obtain rfl := eq_of_beq hx
        obtain ⟨y1, y2⟩ := y
        obtain rfl : x = y1 := hz
        exact ⟨y2, .head _, hy⟩
      | false => rw [hx] at h; exact ih' h

noncomputable def compAt (x : Str) (d : PyData) (ρ : Loc) (y : Str × NameKind) : Option (Str × LV) := match y.2 with
  | .local => (match y.1 == x with
    | true => some (y.1, .val d)
    | false => none)
  | .free => (match look ρ y.1 with
    | some (.cell d) => some (y.1, .cell d)
    | _ => none)
  | .globalImplicit => some (y.1, .glob)
  | _ => none
noncomputable def CompIs (x : Str) (d : PyData) (ρ : Loc) (y : Str) (lv : LV) : NameKind → Prop
  | .local => y = x ∧ lv = .val d
  | .free => ∃ e, look ρ y = some (.cell e) ∧ lv = .cell e
  | .globalImplicit => lv = .glob
  | _ => False
theorem compAt_spec {x : Str} {d : PyData} {y : Str} {k : NameKind} {z : Str × LV} (h : compAt x d ρ (y, k) = some z) : z.1 = y ∧ CompIs x d ρ y z.2 k := by
  cases k with
  | «local» =>
    have h : (match y == x with | true => some (y, LV.val d) | false => none) = some z := h
    cases hx : y == x with
    | true => rw [hx] at h; cases h; exact ⟨rfl, eq_of_beq hx, rfl⟩
    | false => rw [hx] at h; exact no_some h
  | free =>
    have h : (match look ρ y with | some (.cell d) => some (y, LV.cell d) | _ => none) = some z := h
    cases hl : look ρ y with
    | none => rw [hl] at h; exact no_some h
    | some l =>
      rw [hl] at h
      cases l with
      | cell e => cases h; exact ⟨rfl, e, hl, rfl⟩
      | _ => exact no_some h
  | globalImplicit => cases h; exact ⟨rfl, rfl⟩
  | _ => exact no_some h
theorem compLoc_spec {scope : Scope} {x : Str} {d : PyData} {y : Str} {lv : LV} (h : look (compLoc scope x d ρ) y = some lv) : ∃ k, (y, k) ∈ scope.names ∧ CompIs x d ρ y lv k :=
  (look_filterMap (f := compAt x d ρ) (fun y z e => (compAt_spec e).1) h).imp fun k e => ⟨e.1, (compAt_spec e.2).2⟩

theorem compOk_spec {scope : Scope} {x : Str} (h : compOk scope x ρ = true) : scope.kind = .function ∧ scope.names.lookup x = some .local ∧ ∀ y k, (y, k) ∈ scope.names → (y == ("__debug__" : Str)) = false ∧ scope.names.lookup y = some k ∧
    (k = .local ∨ (k = .free ∧ ∃ e, look ρ y = some (.cell e)) ∨ k = .globalImplicit) := by
  have h1 := Bool.and_eq_true_iff.mp h
  have h2 := Bool.and_eq_true_iff.mp h1.1
  refine ⟨eq_of_beq h2.1, eq_of_beq h2.2, fun y k m => ?_⟩
  have b := Bool.and_eq_true_iff.mp (List.all_eq_true.mp h1.2 (y, k) m)
  refine ⟨Bool.not_eq_true' _ ▸ b.1, ?_⟩
  have b2 := b.2
  cases k with
  | «local» => exact ⟨eq_of_beq b2, .inl rfl⟩
  | globalImplicit => exact ⟨eq_of_beq b2, .inr (.inr rfl)⟩
  | free =>
    have b3 := Bool.and_eq_true_iff.mp b2
    refine ⟨eq_of_beq b3.1, .inr (.inl ⟨rfl, ?_⟩)⟩
    have b4 := b3.2
    dsimp only at b4
    cases hl : look ρ y with
    | none => rw [hl] at b4; cases b4
    | some l =>
      rw [hl] at b4
      cases l with
      | cell e => exact ⟨e, rfl⟩
      | _ => cases b4
  | _ => cases b2
/-- the cells that a comprehension reads stand in the frame -/
theorem comp_cells {scope : Scope} {x : Str} (S : St H0 A env oa pa ρ p s) (hc : compOk scope x ρ = true) : ∀ y ∈ scope.names, y.2 = .free → ∃ c, env.cells.lookup y.1 = some c := fun y hy hk =>
  ((compOk_spec hc).2.2 y.1 y.2 hy).2.2.elim (fun r => by rw [hk] at r; cases r) fun r => r.elim (fun r => r.2.elim fun e r => S.fr.names.elim fun m hm => (hm.2 _ _ r).elim fun c n => n.elim fun v n => ⟨c, n.2.1⟩) fun r => by rw [hk] at r; cases r

/-- the state inside a comprehension's turn -/
theorem St.comp {scope : Scope} {x : Str} {d : PyData} {v : Value} {Cl : Addr} {s₃ : Shared} {m₃ : Str → Option Value} (S : St H0 A env oa pa ρ p s) (hc : compOk scope x ρ = true)
    (hk : ∀ b o, s.heap.get? b = some o → s₃.heap.get? b = some o) (hn : s₃.heap.Ns Cl m₃) (hv : m₃ x = some v) (rv : Reads s₃.heap v d []) :
    St H0 A (compEnvC scope (closeFold env scope.names []) Cl env) oa none (compLoc scope x d ρ) none s₃ := by
  have o := compOk_spec hc
  have z := closeFold_spec env scope.names [] (comp_cells S hc) (fun x c e => no_some e)
  have kind {y : Str} {k : NameKind} (h : (y, k) ∈ scope.names) : (relabel scope env).names.lookup y = some (if (k == NameKind.free && env.scope.kind == .function && env.kindOf y == some .cell) then .cell else k) := lookup_relabel (o.2.2 _ _ h).2.1
  refine ⟨fun b o h => hk b o (S.stays b o h), ⟨o.1, S.fr.glob, S.fr.blt, fun y lv hy => (compLoc_spec hy).elim fun k e => (o.2.2 _ _ e.1).1, nofun, m₃, hn, fun y lv hy => (compLoc_spec hy).elim fun k e => ?_⟩, trivial, fun l hl => (S.ff l hl).keep (P := fun _ => False) (.of_exact hk)⟩
  have e2 := e.2
  cases k with
  | «local» =>
    obtain ⟨rfl, rfl⟩ := e2
    exact ⟨lookup_relabel_local (o.2.2 _ _ e.1).2.1, v, hv, .of rv⟩
  | globalImplicit =>
    obtain rfl : lv = .glob := e2
    exact kind e.1
  | free =>
    obtain ⟨e', he, rfl⟩ := e2
    refine S.fr.names.elim fun m hm => (hm.2 _ _ he).elim fun c n => n.elim fun ve n => (z.2 y (.inr e.1)).elim fun c' hc' => ?_
    have hcc := z.1 y c' hc'
    rw [n.2.1] at hcc; cases hcc
    refine ⟨c, ve, ?_, hc', n.2.2.1.imp fun o x => ⟨hk _ _ x.1, x.2⟩, ?_, nofun⟩
    · exact (kind e.1).trans (by rw [S.fr.kind, n.1]; rfl)
    · refine (n.2.2.2.1.wider (P' := Ow oa none (compLoc scope x d ρ)) fun b q _ => q.elim (fun q => no_some q) fun q => q.elim fun z q => q.elim fun zs q => (compLoc_spec q.1).elim fun k e => ?_).keep (P' := fun _ => False) (.of_exact hk) fun _ h => h.elim
      have e2 := e.2
      cases k with
      | «local» => cases e2.2
      | globalImplicit => cases e2
      | free => exact e2.elim fun _ q => by cases q.2
      | _ => exact e2.elim
  | _ => exact e2.elim
end
end Mine

set_option linter.all false
namespace Mine
open PySem PySem.W PyProof.Rows

noncomputable def dataOf : Value → PyData
  | .bool b => .bool b
  | .int i _ => .int i
  | .str x _ => .str x
  | _ => .none
theorem dataOf_reads {h : Heap} {v : Value} {d : PyData} {as : List Addr} (r : Reads h v d as) : scalar d = true → dataOf v = d ∧ ∀ h', Reads h' v d [] :=
  r.casesOn (motive_1 := fun v d _ _ => scalar d = true → dataOf v = d ∧ ∀ h', Reads h' v d []) (fun _ => ⟨rfl, fun _ => .none⟩) (fun b _ => ⟨rfl, fun _ => .bool b⟩) (fun i t _ => ⟨rfl, fun _ => .int i t⟩) (fun x t _ => ⟨rfl, fun _ => .str x t⟩)
    (fun _ _ _ _ e => by cases e) (fun _ _ _ _ e => by cases e) fun _ _ _ _ _ e => by cases e

noncomputable def itemOut (f : PyData → Res (Option PyData)) (d : PyData) : Option PyData := match f d with
  | .ok o _ => o
  | _ => none
theorem itemOut_eq {f : PyData → Res (Option PyData)} {d : PyData} {o : Option PyData} {q : Option Int} (h : f d = .ok o q) : itemOut f d = o := by unfold itemOut; rw [h]
theorem compItems_ok {f : PyData → Res (Option PyData)} {items : List PyData} : ∀ {ys : List PyData} {p : Option Int}, compItems f items = .ok ys p → (∀ d ∈ items, ∃ o q, f d = .ok o q) ∧ ys = items.filterMap (itemOut f) := by
  induction items with
  | nil => exact fun h => ⟨fun _ m => (nomatch m), by cases h; rfl⟩
  | cons d r ih =>
    intro ys p h
    obtain ⟨o, q, hd, h⟩ := bind_ok h
    obtain ⟨zs, q', hr, h⟩ := bind_ok h
    refine ⟨mem_cns ⟨o, q, hd⟩ (ih hr).1, ?_⟩
    rw [List.filterMap_cons, itemOut_eq hd, ← (ih hr).2]
    cases o <;> (cases h; rfl)

section
variable {prog : Program} {w : World} {A : Around} {H0 : Heap} {mg mb : Str → Option Value} {XP : Heap → Heap → Value → Exc → Prop}
variable {C : CallP} {R : Shared → Shared → Prop} {oa : Str → Addr} {pa : Option Addr} {env : Env} {ρ : Loc} {p : Option Int} {s : Shared} {E : Value → Shared → Prop} {n : Nat} {Q : Value → Shared → Prop}

noncomputable def testsF (env : Env) (ifs : List Expr) (b : Bool) : Sem Bool := forIn ifs b fun c r => if r = true then do let ok ← isTrue c env (eval c env); pure (ForInStep.yield ok) else pure (ForInStep.yield r)
theorem tests_false {M : Model} {Q : Bool → Shared → Prop} {ifs : List Expr} (h : Q false s) : wpAny M A (testsF env ifs false) Q E s := by
  induction ifs with
  | nil => exact wpAny_pure h
  | cons e r ih =>
    unfold testsF
    rw [List.forIn_cons]
    exact wpAny_bind (wpAny_pure ih)
theorem tests_sound (hR : IsR H0 pa R) (ih : IhT prog w A H0 XP C R oa pa env ρ n) {ifs : List Expr} : ∀ {p : Option Int} {s : Shared} {Q : Bool → Shared → Prop}, St H0 A env oa pa ρ p s →
    GPost H0 XP R pa VB Q E s (boolP (evP n C true ρ) .And ifs p) → wpAny (model prog w) A (testsF env ifs true) Q E s := by
  induction ifs with
  | nil => exact fun S h => wpAny_pure (h.done hR S.pen (keeps_refl _) rfl)
  | cons e r ihs =>
    intro p s Q S h
    unfold testsF
    rw [List.forIn_cons]
    refine wpAny_bind (wpAny_bind (seq hR (ih S e · E) h fun b d p₁ s₁ r₁ q₁ x₁ h₁ => wpAny_pure ?_))
    obtain rfl : d = _ := x₁
    cases b
    · exact tests_false (h₁.done hR q₁ (keeps_refl _) rfl)
    · exact ihs (S.step hR r₁ q₁) h₁

noncomputable def cPz (f : PyData → Res (Option PyData)) (v : Value) : Bool := (itemOut f (dataOf v)).isSome
noncomputable def cF (f : PyData → Res (Option PyData)) (v y : Value) : Prop := ∃ z, itemOut f (dataOf v) = some z ∧ ∀ h', Reads h' y z []
noncomputable def ItemAt (items : List PyData) (P : Nat → Value → Prop) : Prop := ∀ i v, P i v → ∃ d, items[i]? = some d ∧ dataOf v = d ∧ ∀ h', Reads h' v d []
theorem itemAt_of {items : List PyData} {P : Nat → Value → Prop} {W : Addr → Prop} {h : Heap} (hP : ∀ i v, P i v → ∃ d, items[i]? = some d ∧ Rd W h v d) (hal : items.all scalar = true) : ItemAt items P := fun i v hv =>
  (hP i v hv).imp fun d x => ⟨x.1, x.2.elim fun as r => dataOf_reads r.1 (List.all_eq_true.mp hal d (List.mem_of_getElem? x.1))⟩
theorem paired_rds {h : Heap} {f : PyData → Res (Option PyData)} {W : Addr → Prop} {vs : List Value} : ∀ {ys : List Value}, Paired (cF f) (vs.filter (cPz f)) ys → Rds W h ys ((vs.map dataOf).filterMap (itemOut f)) := by
  induction vs with
  | nil => intro ys pr; cases pr; exact .nil
  | cons v vs ih =>
    intro ys pr
    rw [List.map_cons, List.filterMap_cons]
    cases hv : itemOut f (dataOf v) with
    | none =>
      rw [List.filter_cons_of_neg (by unfold cPz; rw [hv]; exact nofun)] at pr
      exact ih pr
    | some z =>
      rw [List.filter_cons_of_pos (by unfold cPz; rw [hv]; rfl)] at pr
      cases pr with
      | cons h1 h2 =>
        obtain ⟨z', e', r'⟩ := h1
        rw [hv] at e'; cases e'
        exact .cons (.of (r' h)) (ih h2)
theorem comp_list {h : Heap} {f : PyData → Res (Option PyData)} {W : Addr → Prop} {vs ys : List Value} {items : List PyData} {P : Nat → Value → Prop} (hP : ItemAt items P) (hl : vs.length = items.length) (hv : ∀ j v, vs[j]? = some v → P j v) (pr : Paired (cF f) (vs.filter (cPz f)) ys) :
    Rds W h ys (items.filterMap (itemOut f)) := by
  have e : vs.map dataOf = items := List.ext_getElem? fun j => by
    rw [List.getElem?_map]
    cases hj : vs[j]? with
    | none => exact (List.getElem?_eq_none_iff.mpr (hl ▸ List.getElem?_eq_none_iff.mp hj)).symm
    | some v => exact (hP j v (hv j v hj)).elim fun d x => by rw [x.1, ← x.2.1]; rfl
  exact e ▸ paired_rds pr

theorem body_ok {ev : Bool → Loc → Option Int → Expr → Res PyData} {elt : Expr} {ifs : List Expr} {ρ' : Loc} {o : Option PyData} {q : Option Int} (h : compBody ev elt ifs ρ' = .ok o q) :
    ∃ q₁, boolP (ev true ρ') .And ifs none = .ok (.bool o.isSome) q₁ ∧ (∀ z, o = some z → ∃ q₂, ev false ρ' none elt = .ok z q₂ ∧ scalar z = true) := by
  obtain ⟨c, q₁, e₁, h₁⟩ := bind_ok h
  cases c with
  | bool b => cases b with
    | true =>
      obtain ⟨y, q₂, e₂, h₂⟩ := bind_ok h₁
      have h₃ := when_inv h₂
      cases h₃.2
      exact ⟨q₁, e₁, fun z hz => ⟨q₂, Option.some.inj hz ▸ e₂, Option.some.inj hz ▸ h₃.1⟩⟩
    | false =>
      cases h₁
      exact ⟨q₁, e₁, fun z hz => no_some hz⟩
  | _ => cases h₁

theorem asGen_inv {gens : List Comprehension} {g : Str × Pos × Expr × List Expr} (h : asGen gens = some g) : gens = [⟨.Name g.1 g.2.1, g.2.2.1, g.2.2.2, 0⟩] :=
  bind_go h fun c hc h => bind_go h fun x hx h => by
    have h := only_inv h
    rw [one_inv hc, ← Option.some.inj h.2]
    obtain ⟨t, i, l, a⟩ := c
    obtain rfl : t = _ := asName_inv hx
    obtain rfl : a = 0 := eq_of_beq h.1
    rfl

noncomputable abbrev IhAll (prog : Program) (w : World) (A : Around) (H0 : Heap) (mg : Str → Option Value) (XP : Heap → Heap → Value → Exc → Prop) (n : Nat) : Prop := ∀ {C R oa pa env ρ}, CallOK prog w A H0 mg XP C R pa → IsR H0 pa R → IhF prog w A H0 XP C R oa pa env ρ n ∧ IhT prog w A H0 XP C R oa pa env ρ n
/-- what a comprehension's turns are known to do -/
theorem comp_turns (ih : IhAll prog w A H0 mg XP n)
    {scope : Scope} {x : Str} {ifs : List Expr} {elt : Expr} {items : List PyData} {s₁ s₂ : Shared} {wr : List Addr} {P : Nat → Value → Prop} (S : St H0 A env oa pa ρ p s₁) (hk : Keeps s₁ s₂) (hc : compOk scope x ρ = true)
    (hwr : ∀ b ∈ wr, s₁.heap.get? b = none) (hP : ItemAt items P) (hf : ∀ d ∈ items, ∃ o q, bodyAt (evP n quietC) ρ elt scope x ifs d = .ok o q) :
    QuietOnC prog w A env scope (closeFold env scope.names []) x ifs elt wr P (cPz (bodyAt (evP n quietC) ρ elt scope x ifs)) (cF (bodyAt (evP n quietC) ρ elt scope x ifs)) s₂ := by
  have go {Cl : Addr} {i : Nat} {v : Value} {s₃ : Shared} {m₃ : Str → Option Value} (hv : P i v) (hn : s₃.heap.Ns Cl m₃) (hm : m₃ x = some v) (hkk : ∀ b o, b ∉ wr → s₂.heap.get? b = some o → s₃.heap.get? b = some o) :
      St H0 A (compEnvC scope (closeFold env scope.names []) Cl env) oa none (compLoc scope x (dataOf v) ρ) none s₃ ∧ ∃ o q, bodyAt (evP n quietC) ρ elt scope x ifs (dataOf v) = .ok o q :=
    (hP i v hv).elim fun d x => ⟨S.comp (s₃ := s₃) hc (fun b o e => hkk b o (fun m => by rw [hwr b m] at e; cases e) (keeps_exact hk b o e)) hn hm (x.2.1 ▸ x.2.2 _), x.2.1 ▸ hf _ (List.mem_of_getElem? x.1)⟩
  have ihq {env ρ} := ih (C := quietC) (R := Keeps) (oa := oa) (pa := none) (env := env) (ρ := ρ) (.inl fun _ _ _ => rfl) (isR_quiet H0)
  refine ⟨fun Cl i v s₃ m₃ E' _ hv hn hm hkk _ => ?_, fun Cl i v s₃ m₃ E' _ hv hp hn hm hkk _ => ?_⟩
  · obtain ⟨S₃, o, q, ho⟩ := go hv hn hm hkk
    obtain ⟨q₁, e₁, _⟩ := body_ok ho
    refine tests_sound (C := quietC) (XP := XP) (n := n) (isR_quiet H0) ihq.2 S₃ (e₁ ▸ fun b' s₄ k₄ _ hb' => ⟨?_, k₄⟩)
    have hb'' : PyData.bool o.isSome = .bool b' := hb'
    cases hb''
    unfold cPz
    rw [itemOut_eq ho]
  · obtain ⟨S₃, o, q, ho⟩ := go hv hn hm hkk
    obtain ⟨q₁, e₁, hz⟩ := body_ok ho
    have ho' := itemOut_eq ho
    cases o with
    | none => unfold cPz at hp; rw [ho'] at hp; cases hp
    | some z =>
      obtain ⟨q₂, e₂, hs⟩ := hz z rfl
      exact ihq.1 S₃ elt _ E' (e₂ ▸ fun y s₄ k₄ _ hy => ⟨⟨z, ho', hy.elim fun as ry => (dataOf_reads ry.1 hs).2⟩, k₄⟩)

theorem evP_set {m : Bool} {a : List Expr} {b : Nat} {c : Pos} : evP n C m ρ p (.Set a b c) = .stuck := by
  cases n <;> cases m <;> rfl
/-- a head that is read is no set display -/
theorem fsi_of {iter : Expr} (h : iterP (evP n C false ρ) ρ p iter ≠ .stuck) (xv : Value) : foldedSetIterable iter env xv = pure xv := by
  cases iter with
  | Set a b c => exact absurd (congrArg (Res.bind · fun d p => Res.ofOpt p (itemsOf d)) evP_set) h
  | _ => rfl
theorem no_cell {scope : Scope} {x : Str} (hc : compOk scope x ρ = true) : ∀ y ∈ scope.names, y.2 ≠ .cell := fun y m e => ((compOk_spec hc).2.2 y.1 y.2 m).2.2.elim (fun r => by rw [e] at r; cases r) fun r => r.elim (fun r => by rw [e] at r; cases r.1) fun r => by rw [e] at r; cases r
theorem local_of {scope : Scope} {x : Str} (hc : compOk scope x ρ = true) : ∀ y ∈ scope.names, y.2 = .local → scope.names.lookup y.1 = some .local := fun y m l => ((compOk_spec hc).2.2 y.1 y.2 m).2.1.trans (by rw [l])
theorem pen_not_new {h : Heap} {p₁ : Option Int} {D : Addr} {s₁ s₂ : Shared} (q : PenAt H0 pa p₁ s₁.heap) (k : Keeps s₁ s₂) (hD : s₂.heap.get? D = none) : pa ≠ some D := by
  rintro rfl
  cases p₁ with
  | none => exact q
  | some n => exact q.1.elim fun t l => l.elim fun o x => by rw [keeps_exact k _ _ x.1] at hD; cases hD

theorem arm_comp {elt : Expr} {gens : List Comprehension} {scope : Scope} {pos : Pos} (G : Glo H0 mg mb) (hh : A.handled = none) (hR : IsR H0 pa R)
    (ih : IhAll prog w A H0 mg XP n) (ihF : IhF prog w A H0 XP C R oa pa env ρ n) (S : St H0 A env oa pa ρ p s)
    (h : GPost H0 XP R pa (Rd (pens pa)) Q E s (compP (evP n quietC) (evP n C false ρ) ρ p elt gens scope)) :
    wpAny (model prog w) A (eval (.ListComp elt gens scope pos) env) Q E s := by
  refine Classical.byContradiction fun hn => ?_
  obtain ⟨g, hg, h0⟩ := onSome_some h
  clear h
  obtain ⟨x, px, iter, ifs⟩ := g
  obtain rfl := asGen_inv hg
  have h := when_ok h0
  have hc := h.1
  have o := compOk_spec hc
  refine hn (wpAny_ListComp_free (cPz (bodyAt (evP n quietC) ρ elt scope x ifs)) (cF (bodyAt (evP n quietC) ρ elt scope x ifs)) (closure_eq (comp_cells S hc)) (no_cell hc) o.1 (local_of hc) o.2.1
    (iter_sound G hh hR ihF S h.2 fun items p₁ s₁ s₂ it r₁ q₁ k₁ io h₁ => Classical.byContradiction fun hn => ?_) (fsi_of fun e => by have h2 := h.2; rw [e] at h2; exact h2))
  have h₁ := when_ok h₁
  have hal := Bool.and_eq_true_iff.mp h₁.1
  obtain ⟨ys, p₂, hys, h₂⟩ := calm_ok h₁.2
  obtain ⟨hf, rfl⟩ := compItems_ok hys
  obtain ⟨I, fp, wr, P, Stt, hI, W, hst, hfp, hwr, hfw, hwc, _, hP⟩ := io
  have hP' := itemAt_of hP hal.1
  exact hn ⟨I, fp, wr, items.length, P, Stt, hI, W, of_decide_eq_true hal.2, hst, hfp, comp_turns ih (S.step hR r₁ q₁) k₁ hc hwr hP' hf, fun D h' tk zs vs hD hl _ hvl hvP hpr hkk =>
    h₂.done hR q₁ (by
      obtain ⟨h2, t2, rfl, kk⟩ := k₁
      exact ⟨h', tk, rfl, fun b o e => hkk b o (fun m => by rw [hwr b m] at e; cases e) (kk b o e)⟩) (Rd.list hl (comp_list hP' hvl hvP hpr) (pen_not_new (h := h') q₁ k₁ hD))⟩
end
end Mine

set_option linter.all false
namespace Mine
open PySem PySem.W PyProof.Rows

theorem asLst_inv {e : Expr} {x : List Expr × Pos} (h : asLst e = some x) : e = .List x.1 x.2 := val_inv (o := (vw e).ls) h
theorem asSlice_inv {e : Expr} {x : Option Expr × Option Expr × Option Expr × Pos} (h : asSlice e = some x) : e = .Slice x.1 x.2.1 x.2.2.1 x.2.2.2 := val_inv (o := (vw e).sl) h
theorem asDict_inv {e : Expr} {x : List (Option Expr) × List Expr × Pos} (h : asDict e = some x) : e = .Dict x.1 x.2.1 x.2.2 := val_inv (o := (vw e).di) h
theorem zeroE_inv {e : Expr} (h : zeroE e = true) : ∃ k q, e = .Constant (.int 0) k q :=
  (any_inv h).elim fun c z => (any_inv z.2).elim fun i y => ⟨c.2.1, c.2.2, by rw [asConst_inv z.1, intC_inv y.1, show i = (0 : Int) from eq_of_beq y.2]⟩
theorem penArgs_inv {l : List Expr} {a : Str × Pos × Expr × Pos} (h : penArgs l = some a) : l = [.Name a.1 a.2.1, .List [a.2.2.1] a.2.2.2] :=
  bind_go h fun ab h1 h => bind_go h fun r h2 h => bind_go h fun l h3 h => bind_go h fun e h4 h => by
    rw [two_inv h1, asName_inv h2, asLst_inv h3, one_inv h4, ← Option.some.inj h]

section
variable {prog : Program} {w : World} {A : Around} {H0 : Heap} {mg mb : Str → Option Value} {XP : Heap → Heap → Value → Exc → Prop}
variable {C : CallP} {R : Shared → Shared → Prop} {oa : Str → Addr} {pa : Option Addr} {env : Env} {ρ : Loc} {p : Option Int} {s : Shared} {Q E : Value → Shared → Prop} {n : Nat}

theorem const_sound {c : Const} {k : Nat} {q : Pos} (hR : IsR H0 pa R) (S : St H0 A env oa pa ρ p s) (h : GPost H0 XP R pa (Rd (pens pa)) Q E s (constP p c)) : wpAny (model prog w) A (eval (.Constant c k q) env) Q E s := by
  cases c with
  | none => exact wpAny_Constant_none (h.done hR S.pen (keeps_refl _) .none)
  | bool b => exact wpAny_Constant_bool (h.done hR S.pen (keeps_refl _) (.bool _))
  | int i => exact wpAny_Constant_int (h.done hR S.pen (keeps_toks ..) (.int ..))
  | str x => exact wpAny_Constant_str (h.done hR S.pen (keeps_toks ..) (.str ..))
  | _ => exact h.elim
theorem lv_sound {x : Str} {q : Pos} (hR : IsR H0 pa R) (S : St H0 A env oa pa ρ p s) (h : GPost H0 XP R pa (Rd (pens pa)) Q E s (lvP p (look ρ x))) : wpAny (model prog w) A (eval (.Name x q) env) Q E s :=
  (ofOpt_end h).elim fun d e => name_sound S e.1 fun v r => e.2.done hR S.pen (keeps_refl _) r
theorem call_sound {f : Expr} {args : List Expr} {pos : Pos} (G : Glo H0 mg mb) (hh : A.handled = none) (hC : CallOK prog w A H0 mg XP C R pa) (hR : IsR H0 pa R) (ih : IhF prog w A H0 XP C R oa pa env ρ n) (S : St H0 A env oa pa ρ p s)
    (h : GPost H0 XP R pa (Rd (pens pa)) Q E s (callE (evP n C false ρ) C ρ p args pos f)) : wpAny (model prog w) A (eval (.Call f args [] pos) env) Q E s := by
  cases f with
  | Name f fp =>
    have h := when_ok h
    have hl := isGlobL_inv h.1
    cases ha : penArgs args with
    | some a =>
      have h := h.2
      rw [ha] at h
      cases p with
      | some _ => exact h.elim
      | none => exact penArgs_inv ha ▸ arm_pencall G hC hR ih S hl h
    | none =>
      have h := h.2
      rw [ha] at h
      cases hf : isBlt f with
      | true => rw [hf] at h; exact arm_builtin G hh hR ih S hl hf h
      | false => rw [hf] at h; exact arm_call G hC hR ih S hl h
  | Attribute o m apos =>
    cases args with
    | nil => exact arm_method0 hR ih S h
    | cons e r => cases r with
      | nil => exact arm_method1 hR ih S h
      | cons _ _ => exact h.elim
  | _ => exact h.elim
theorem subE_sound {v i : Expr} {pos : Pos} (hR : IsR H0 pa R) (ihA : ∀ {C R oa pa env ρ}, CallOK prog w A H0 mg XP C R pa → IsR H0 pa R → IhF prog w A H0 XP C R oa pa env ρ n) (ih : IhF prog w A H0 XP C R oa pa env ρ n) (S : St H0 A env oa pa ρ p s)
    (h : GPost H0 XP R pa (Rd (pens pa)) Q E s (subE (evP n C false ρ) (evP n quietC false (quietLoc ρ)) ρ p v i)) : wpAny (model prog w) A (eval (.Subscript v i pos) env) Q E s := by
  unfold subE at h
  cases hs : asSlice i with
  | some a => rw [hs] at h; exact asSlice_inv hs ▸ arm_slice hR ih S h
  | none =>
    rw [hs] at h
    dsimp only at h
    cases hd : asDict v with
    | some kv => rw [hd] at h; exact asDict_inv hd ▸ arm_dict hR ihA S h
    | none =>
      rw [hd] at h
      dsimp only at h
      cases hp : penNm ρ v with
      | false => rw [hp] at h; exact arm_sub hR ih S h
      | true =>
        rw [hp] at h
        have h := when_ok h
        obtain ⟨k, q, hz⟩ := zeroE_inv h.1
        obtain ⟨x, hx, hl⟩ := penNm_inv hp
        rw [hz, hx]
        exact arm_pen hR S hl h.2

theorem se_all (G : Glo H0 mg mb) (hh : A.handled = none) (hU : A.units + 100 < cLine) (n : Nat) : SE prog w A H0 mg XP n := by
  induction n with
  | zero => exact fun hC hR p s S => ⟨fun e Q E h => False.elim h, fun e Q E h => False.elim h⟩
  | succ n ih =>
    intro C R oa pa env ρ hC hR p s S
    have ihF : IhF prog w A H0 XP C R oa pa env ρ n := fun S e Q E h => (ih hC hR S).1 e Q E h
    have ihT : IhT prog w A H0 XP C R oa pa env ρ n := fun S e Q E h => (ih hC hR S).2 e Q E h
    have ihAll : IhAll prog w A H0 mg XP n := fun hC hR => ⟨fun S e Q E h => (ih hC hR S).1 e Q E h, fun S e Q E h => (ih hC hR S).2 e Q E h⟩
    refine ⟨fun e Q E h => ?_, fun e Q E h => ?_⟩
    · cases e with
      | Constant c k q => exact const_sound hR S h
      | Name x q => exact lv_sound hR S h
      | BinOp l op r q => exact arm_bin hR ihF S h
      | UnaryOp op x q => cases op with
        | USub => exact arm_neg hR ihF S h
        | _ => exact h.elim
      | IfExp t b o q => exact arm_ifexp hR ihF ihT S h
      | Compare l ops rs q => exact (onSome_some h).elim fun op e1 => (onSome_some e1.2).elim fun r e2 => one_inv e1.1 ▸ one_inv e2.1 ▸ arm_cmp hU hR ihF S e2.2
      | BoolOp op es q => cases op with
        | Or => exact h.elim
        | And => exact (onSome_some h).elim fun xy e => two_inv e.1 ▸ arm_and hR ihF S e.2
      | Tuple es k q => exact arm_tuple hR ihF S h
      | List es q => exact arm_list hR ihF S h
      | Call f args kws q => cases kws with
        | nil => exact call_sound G hh hC hR ihF S h
        | cons _ _ => exact h.elim
      | Subscript v i q => exact subE_sound hR (fun hC hR => (ihAll hC hR).1) ihF S h
      | ListComp elt gens scope q => exact arm_comp G hh hR ihAll ihF S h
      | _ => exact h.elim
    · cases e with
      | UnaryOp op x q => cases op with
        | Not => exact arm_not hR ihT S h
        | _ => exact h.elim
      | BoolOp op es q => exact wpAny_isTrue_BoolOp (boolP_sound hR ihT S h)
      | Compare l ops rs q =>
        have h : GPost H0 XP R pa VB Q E s (match one ops with
          | some op => onSome (one rs) fun r => cmp1P (evP n C false ρ) l op r p
          | none => onSome (two ops) fun o => onSome (two rs) fun r => cmp2P (evP n C false ρ) l o.1 r.1 o.2 r.2 p) := h
        cases h1 : one ops with
        | some op => rw [h1] at h; exact (onSome_some h).elim fun r e2 => one_inv h1 ▸ one_inv e2.1 ▸ arm_cmpT hU hR ihF S e2.2
        | none => rw [h1] at h; exact (onSome_some h).elim fun op e1 => (onSome_some e1.2).elim fun r e2 => two_inv e1.1 ▸ two_inv e2.1 ▸ arm_cmp2T hU hR ihF S e2.2
      | Name x q => exact arm_truth hR (ihF S _ · E) h
      | Call f args kws q => exact arm_truth hR (ihF S _ · E) h
      | _ => exact h.elim
end
end Mine

set_option linter.all false
namespace Mine
open PySem PySem.W PyProof.Rows

theorem look_put {ρ : Loc} {x y : Str} {lv : LV} (hx : ∃ l, look ρ x = some l) : look (put ρ x lv) y = if y = x then some lv else look ρ y := by
  induction ρ with
  | nil => exact hx.elim fun l h => no_some h
  | cons e r ih =>
    obtain ⟨z, l⟩ := e
    unfold put
    cases hxz : x == z with
    | true =>
      obtain rfl := eq_of_beq hxz
      unfold look
      dsimp only
      rw [List.lookup_cons, List.lookup_cons]
      by_cases hy : y = x
      · rw [if_pos hy, beq_iff_eq.mpr hy]
      · rw [if_neg hy, beq_eq_false_iff_ne.mpr hy]
    | false =>
      unfold look at ih hx ⊢
      dsimp only
      rw [List.lookup_cons, List.lookup_cons]
      rw [List.lookup_cons, hxz] at hx
      cases hyz : y == z with
      | true => exact (if_neg fun e => by rw [← e, hyz] at hxz; cases hxz).symm
      | false => exact ih hx
theorem look_put_self {ρ : Loc} {x : Str} {lv : LV} (hx : ∃ l, look ρ x = some l) : look (put ρ x lv) x = some lv := (look_put hx).trans (if_pos rfl)
/-- what a name says behind a store -/
theorem look_put_go {ρ : Loc} {x y : Str} {lv l : LV} (hx : ∃ l, look ρ x = some l) (h : look (put ρ x lv) y = some l) {G : Prop} (k1 : y = x → lv = l → G) (k2 : y ≠ x → look ρ y = some l → G) : G := by
  rw [look_put hx] at h
  by_cases e : y = x
  · rw [if_pos e] at h; exact k1 e (Option.some.inj h)
  · rw [if_neg e] at h; exact k2 e h

theorem isLocal_look {ρ : Loc} {x : Str} (h : isLocal ρ x = true) : ∃ l, look ρ x = some l ∧ isLocalL (some l) = true := by
  unfold isLocal at h
  cases e : look ρ x with
  | none => rw [e] at h; cases h
  | some l => rw [e] at h; exact ⟨l, rfl, h⟩
theorem isLocal_some {ρ : Loc} {x : Str} (h : isLocal ρ x = true) : ∃ l, look ρ x = some l := (isLocal_look h).imp fun _ e => e.1

/-- a list that may be grown: it has no dict of its own -/
noncomputable def OwnL (h : Heap) (a : Addr) (items : Array Value) : Prop := ∃ n sl, h.get? a = some { cls := .type "list", dict := none, data := .seq items n, slots := sl }
theorem OwnL.isList {h : Heap} {a : Addr} {items : Array Value} (x : OwnL h a items) : h.IsList a items := let ⟨n, _, e⟩ := x; ⟨_, e, rfl, n, rfl⟩
theorem OwnL.keep {P : Addr → Prop} {h h' : Heap} {a : Addr} {items : Array Value} (x : OwnL h a items) (k : KeepS P h h') (hp : ¬ P a) : OwnL h' a items :=
  let ⟨n, sl, e⟩ := x; ⟨n, sl, k.at e (cls_ne rfl (by decide)) hp⟩

/-- the state of a frame between two statements: B an earlier heap, P what of it may have changed, X lists that no name reads yet -/
structure SS (H0 : Heap) (A : Around) (env : Env) (pa : Option Addr) (B : Heap) (P : Addr → Prop) (s₀ : Shared) (X : Addr → Prop) (oa : Str → Addr) (ρ : Loc) (p : Option Int) (s : Shared) : Prop where
  stays : H0.StaysIn s.heap
  kind : env.scope.kind = .function
  glob : env.globals = mainGlobals
  blt : env.builtins = builtinsNs
  nodebug : ∀ x lv, look ρ x = some lv → (x == ("__debug__" : Str)) = false
  lpen : pa ≠ some env.locals
  names : ∃ m, s.heap.Ns env.locals m ∧ ∀ x lv, look ρ x = some lv → NmOK env oa pa (fun b => Ow oa pa ρ b ∨ X b) m s.heap x lv
  pen : PenAt H0 pa p s.heap
  ff : ∀ l, A.frames = some l → FF H0 s.heap l
  keep : KeepS P B s.heap
  shape : ∃ h' tk, s = { s₀ with heap := h', toks := tk }
  lcls : ∃ o, s.heap.get? env.locals = some o ∧ o.cls = .type "frame" ∧ NonRec o
  lp : P env.locals ∨ ¬ Live B env.locals
  lnew : H0.get? env.locals = none
  penP : ∀ b, pens pa b → P b ∨ ¬ Live B b
  own : ∀ x xs, look ρ x = some (.own xs) → ((P (oa x) ∨ ¬ Live B (oa x)) ∧ H0.get? (oa x) = none) ∧ ∃ items, OwnL s.heap (oa x) items
  inj : ∀ x xs y ys, look ρ x = some (.own xs) → look ρ y = some (.own ys) → oa x = oa y → x = y

section
variable {prog : Program} {w : World} {A : Around} {H0 : Heap} {mg mb : Str → Option Value} {XP : Heap → Heap → Value → Exc → Prop}
variable {C : CallP} {env : Env} {pa : Option Addr} {B : Heap} {P : Addr → Prop} {s₀ : Shared} {X : Addr → Prop} {oa : Str → Addr} {ρ : Loc} {p : Option Int} {s : Shared} {E : Value → Shared → Prop} {n : Nat}

theorem NmOK.wider {W W' : Addr → Prop} {m : Str → Option Value} {h : Heap} {x : Str} {lv : LV} (n : NmOK env oa pa W m h x lv) (hp : ∀ b, W' b → Live h b → W b) : NmOK env oa pa W' m h x lv := by
  cases lv with
  | val d => exact ⟨n.1, n.2.imp fun v b => ⟨b.1, b.2.wider hp⟩⟩
  | cell d => exact n.imp fun c n => n.imp fun v b => ⟨b.1, b.2.1, b.2.2.1, b.2.2.2.1.wider hp, b.2.2.2.2⟩
  | _ => exact n

theorem SS.st (S : SS H0 A env pa B P s₀ X oa ρ p s) : St H0 A env oa pa ρ p s :=
  ⟨S.stays, ⟨S.kind, S.glob, S.blt, S.nodebug, S.lpen, S.names.imp fun m n => ⟨n.1, fun x lv hx => (n.2 x lv hx).wider fun _ q _ => .inl q⟩⟩, S.pen, S.ff⟩

theorem SS.less {X' : Addr → Prop} (S : SS H0 A env pa B P s₀ X oa ρ p s) (h : ∀ b, X' b → Live s.heap b → X b) : SS H0 A env pa B P s₀ X' oa ρ p s :=
  ⟨S.stays, S.kind, S.glob, S.blt, S.nodebug, S.lpen, S.names.imp fun m n => ⟨n.1, fun x lv hx => (n.2 x lv hx).wider fun b q l => q.imp id fun r => h b r l⟩, S.pen, S.ff, S.keep, S.shape, S.lcls, S.lp, S.lnew, S.penP, S.own, S.inj⟩

/-- a list that is not there yet is read by no name -/
theorem SS.fresh (S : SS H0 A env pa B P s₀ X oa ρ p s) {Y : Addr → Prop} (h : ∀ b, Y b → ¬ Live s.heap b) : SS H0 A env pa B P s₀ (fun b => X b ∨ Y b) oa ρ p s :=
  S.less fun b q l => q.elim id fun y => absurd l (h b y)

theorem cls_keep {P : Addr → Prop} {h h' : Heap} {L : Addr} {o : Obj} (k : KeepS P h h') (e : h.get? L = some o) (hc : o.cls = .type "frame") (hn : NonRec o) : ∃ o, h'.get? L = some o ∧ o.cls = .type "frame" ∧ NonRec o :=
  (k L o e).elim (fun x => ⟨_, x, hc, hn⟩) fun z => z.elim (fun x => x.2.elim fun sl x => ⟨_, x, hc, hn⟩) fun x => x.2.2.elim fun o' x => ⟨_, x.1, x.2.1.trans hc, x.2.2 hn⟩

theorem SS.step {p' : Option Int} {s' : Shared} (S : SS H0 A env pa B P s₀ X oa ρ p s) (r : RN H0 pa s s') (q : PenAt H0 pa p' s'.heap) : SS H0 A env pa B P s₀ X oa ρ p' s' := by
  obtain ⟨h', tk, rfl, k, st⟩ := r
  exact ⟨st S.stays, S.kind, S.glob, S.blt, S.nodebug, S.lpen, S.names.imp fun m n => ⟨k.ns n.1 S.lpen, fun x lv hx => (n.2 x lv hx).keep k fun _ q => .inl (.inl q)⟩, q, fun l hl => (S.ff l hl).keep k,
    S.keep.trans k fun b pb lb => (S.penP b pb).elim id fun h => absurd lb h, S.shape.elim fun h e => e.elim fun t e => ⟨h', tk, by rw [e]⟩, S.lcls.elim fun o x => cls_keep k x.1 x.2.1 x.2.2, S.lp, S.lnew, S.penP,
    fun x xs hx => ⟨(S.own x xs hx).1, (S.own x xs hx).2.imp fun items b => S.names.elim fun m n => b.keep k (n.2 _ _ hx).2.2.2⟩, S.inj⟩
theorem SS.keeps {s' : Shared} (S : SS H0 A env pa B P s₀ X oa ρ p s) (k : Keeps s s') : SS H0 A env pa B P s₀ X oa ρ p s' := S.step ((isR_RN H0 pa).keeps k) (S.pen.exact k)

theorem ow_put {x : Str} {lv : LV} {b : Addr} (hx : ∃ l, look ρ x = some l) (hl : ∀ xs, lv ≠ .own xs) (h : Ow oa pa (put ρ x lv) b) : Ow oa pa ρ b :=
  h.imp id fun h => h.elim fun y h => h.elim fun ys h => look_put_go hx h.1 (fun _ e => absurd e (hl ys)) fun _ e => ⟨y, ys, e, h.2⟩

theorem look_mem {x : Str} {l : LV} (hx : look ρ x = some l) : (x, l) ∈ ρ := by
  induction ρ with
  | nil => exact no_some hx
  | cons e r ih =>
    obtain ⟨z, l'⟩ := e
    unfold look at hx
    rw [List.lookup_cons] at hx
    cases hxz : x == z with
    | true => rw [hxz] at hx; rw [eq_of_beq hxz, Option.some.inj hx]; exact .head _
    | false => rw [hxz] at hx; exact .tail _ (ih hx)
theorem noOwn_look (h : noOwn ρ = true) {x : Str} {xs : List PyData} (hx : look ρ x = some (.own xs)) : False :=
  nomatch (show false = true from List.all_eq_true.mp h _ (look_mem hx))

/-- only one address of the heap changes -/
theorem keepS_one {h h' : Heap} {a : Addr} {o o' : Obj} (ho : h.get? a = some o) (hs : ∀ b o, b ≠ a → h.get? b = some o → h'.get? b = some o) (ht : o.cls ≠ .type "tuple") (ho' : h'.get? a = some o') (hc : o'.cls = o.cls) (hn : NonRec o') : KeepS (fun b => b = a) h h' := fun b q e => by
  by_cases hb : b = a
  · subst hb
    rw [ho] at e; cases e
    exact .inr (.inr ⟨rfl, ht, o', ho', hc, fun _ => hn⟩)
  · exact .inl (hs b q hb e)
theorem type_ne {v : Value} {x y : String} (h : v = .type x) (e : x ≠ y) : v ≠ .type y := fun q => e (Value.type.inj (h.symm.trans q))

/-- only the frame's names change -/
theorem SS.names_only {h' : Heap} {k : Nat} {ρ' : Loc} {oa' : Str → Addr} {m' : Str → Option Value} (S : SS H0 A env pa B P s₀ X oa ρ p s) (hs : ∀ b o, b ≠ env.locals → s.heap.get? b = some o → h'.get? b = some o) (hn : h'.Ns env.locals m')
    (hc : ∃ o, h'.get? env.locals = some o ∧ o.cls = .type "frame" ∧ NonRec o)
    (hd : ∀ x lv, look ρ' x = some lv → (x == ("__debug__" : Str)) = false) (hm : ∀ x lv, look ρ' x = some lv → NmOK env oa' pa (fun b => Ow oa' pa ρ' b ∨ X b) m' h' x lv)
    (ho : ∀ x xs, look ρ' x = some (.own xs) → ((P (oa' x) ∨ ¬ Live B (oa' x)) ∧ H0.get? (oa' x) = none) ∧ ∃ items, OwnL h' (oa' x) items) (hi : ∀ x xs y ys, look ρ' x = some (.own xs) → look ρ' y = some (.own ys) → oa' x = oa' y → x = y) :
    SS H0 A env pa B P s₀ X oa' ρ' p { s with heap := h', toks := k } := by
  refine Classical.byContradiction fun hno => S.lcls.elim fun oL l => hc.elim fun oL' l' => hno ?_
  have hk : KeepS (fun b => b = env.locals) s.heap h' := keepS_one l.1 hs (type_ne l.2.1 (by decide)) l'.1 (l'.2.1.trans l.2.1.symm) l'.2.2
  have hH : ∀ b o, H0.get? b = some o → b ≠ env.locals := fun b o e q => by rw [q, S.lnew] at e; cases e
  refine ⟨fun b o e => hs b o (hH b o e) (S.stays b o e), S.kind, S.glob, S.blt, hd, S.lpen, ⟨m', hn, hm⟩, ?_, fun l hl => (S.ff l hl).keep hk, S.keep.trans hk fun b e lb => S.lp.elim (fun q => e ▸ q) fun n => absurd (e ▸ lb) n, S.shape.elim fun h e => e.elim fun t e => ⟨h', k, by rw [e]⟩, ⟨oL', l'⟩, S.lp, S.lnew, S.penP, ho, hi⟩
  have q := S.pen
  have hl := S.lpen
  cases pa with
  | none => cases p <;> exact q
  | some a => cases p with
    | none => exact q
    | some k => exact ⟨q.1.imp fun t l => l.imp fun o x => ⟨hs a o (fun e => hl (congrArg some e)) x.1, x.2⟩, q.2⟩
end
end Mine

set_option linter.all false
namespace Mine
open PySem PySem.W PyProof.Rows
open Sem (wp)

section
variable {name : Str} {h : Int} {key v c : Value} {d : Option Addr} {es : Array DictEntry} {n : Nat} {s : Array (Option Value)}
theorem put_cls : ∃ es' n', Obj.putName name h key v ⟨c, d, .dict es n, s⟩ = ⟨c, d, .dict es' n', s⟩ := by
  show ∃ es' n', (match nsPutIn name.cps.size name.cps.toList (fun | some e => { e with val := v } | none => ⟨h, key, v⟩) es.toList with
    | (es', false) => (⟨c, d, .dict es'.toArray n, s⟩ : Obj)
    | (es', true) => ⟨c, d, .dict es'.toArray (n + 1), s⟩) = _
  generalize nsPutIn name.cps.size name.cps.toList (fun | some e => { e with val := v } | none => ⟨h, key, v⟩) es.toList = r
  obtain ⟨es', b⟩ := r
  cases b <;> exact ⟨_, _, rfl⟩
theorem put_free : (Obj.putName name h key v ⟨c, d, .dict es n, s⟩).isFreed = false := put_cls.elim fun _ z => z.elim fun _ e => by rw [e]; rfl
theorem put_c : (Obj.putName name h key v ⟨c, d, .dict es n, s⟩).cls = c := put_cls.elim fun _ z => z.elim fun _ e => by rw [e]
theorem put_nr : NonRec (Obj.putName name h key v ⟨c, d, .dict es n, s⟩) := put_cls.elim fun _ z => z.elim fun _ e => by rw [e]; exact nofun
end
theorem wp_nsSet_cls (M : Model) (Γ : Ctx) (E : Value → Pos → Shared → Prop) (p : Pos) (s : Shared) {a : Addr} {m} {c : Value} (hn : s.heap.Ns a m) (hc : ∃ o, s.heap.get? a = some o ∧ o.cls = c) (name : Str) (v : Value) (Q : Unit → Pos → Shared → Prop)
    (hQ : ∀ h', h'.Ns a (fun x => if x = name then some v else m x) → Heap.SameBut a s.heap h' → (∃ o, h'.get? a = some o ∧ o.cls = c ∧ NonRec o) →
      Q () p { s with heap := h', toks := s.toks + 1 }) : wp M Γ (nsSet a name v) Q E p s := by
  obtain ⟨o, es, ep, ho, hd, hk, hm⟩ := hn
  obtain ⟨o', ho', hcls⟩ := hc
  rw [ho] at ho'; cases ho'
  simp only [nsSet, strHash, Sem.wp_bind', Sem.wp_cmd_ask, Sem.wp_pure', Sem.wp_cmd_mkText]
  rw [Sem.wp_loadPart_of M Γ E p { s with toks := s.toks + 1 } (o := o) _ ho]
  have hany : es.any (·.refKey) = false := by
    rw [Array.any_eq_false']; intro e he; obtain ⟨n, t, h⟩ := hk e he; simp [DictEntry.refKey, h]
  simp only [hd, aRefKeyMayBeTheName_eq, aRefKeyMayBeTheNameByArray, hany, Bool.and_false, Bool.false_eq_true, if_false, Sem.wp_cmd_updatePart]
  refine ⟨by rw [ho]; rfl, hQ _ ?_ (Heap.SameBut.update ..) ?_⟩
  · obtain ⟨c, d, dt, sl⟩ := o
    subst hd
    cases hi : es.findIdx? (·.key.isStr name) with
    | some i =>
      refine ⟨_, _, ep, Heap.get?_update_self _ ho put_free, by simp only [Obj.putName_eq, Obj.putNameByArray, hi]; rfl, hk.modify _ _, fun x => ?_⟩
      show _ = if x = name then some v else m x
      rw [← hm]; exact findBy_modify (fun n v => v.isStr n) Value.isStr_inj es name x v i hi
    | none =>
      refine ⟨_, _, ep + 1, Heap.get?_update_self _ ho put_free, by simp only [Obj.putName_eq, Obj.putNameByArray, hi]; rfl, hk.push _ _ _ _, fun x => ?_⟩
      show _ = if x = name then some v else m x
      rw [← hm]
      exact findBy_push (fun n v => v.isStr n) es name x _ _ v (fun y => by
        show (name == y) = decide (y = name)
        by_cases h : y = name
        · subst h; simp
        · have : ¬ name = y := fun e => h e.symm
          simp [h, this]) hi
  · obtain ⟨c, d, dt, sl⟩ := o
    subst hd
    exact ⟨_, Heap.get?_update_self _ ho put_free, put_c.trans hcls, put_nr⟩

theorem but_both {h h' : Heap} (hk : ∀ b o, h.get? b = some o → o.cls ≠ .type "frame" → h'.get? b = some o) : (∀ {v d as}, Reads h v d as → Reads h' v d as) ∧ ∀ {vs ds as}, ReadsAll h vs ds as → ReadsAll h' vs ds as :=
  reads_ind .none .bool .int .str (fun h1 h2 h3 h4 => .list (hk _ _ h1 (cls_ne h2 (by decide))) h2 h3 h4) (fun h1 h2 h3 h4 => .tuple (hk _ _ h1 (cls_ne h2 (by decide))) h2 h3 h4) (fun h1 h2 h3 h4 h5 => .dict (hk _ _ h1 (cls_ne h2 (by decide))) h2 h3 h4 h5) .nil .cons
theorem reads_but {h h' : Heap} (hk : ∀ b o, h.get? b = some o → o.cls ≠ .type "frame" → h'.get? b = some o) {v : Value} {d : PyData} {as : List Addr} (r : Reads h v d as) : Reads h' v d as := (but_both hk).1 r
theorem readsAll_but {h h' : Heap} (hk : ∀ b o, h.get? b = some o → o.cls ≠ .type "frame" → h'.get? b = some o) {vs : List Value} {ds : List PyData} {as : List Addr} (r : ReadsAll h vs ds as) : ReadsAll h' vs ds as := (but_both hk).2 r

section
variable {prog : Program} {w : World} {A : Around} {H0 : Heap} {mg mb : Str → Option Value} {XP : Heap → Heap → Value → Exc → Prop}
variable {C : CallP} {env : Env} {pa : Option Addr} {B : Heap} {P : Addr → Prop} {s₀ : Shared} {X : Addr → Prop} {oa : Str → Addr} {ρ : Loc} {p : Option Int} {s : Shared} {E : Value → Shared → Prop} {n : Nat}

theorem storable_kind (S : SS H0 A env pa B P s₀ X oa ρ p s) : (env.scope.kind == .class || (env.scope.kind == .module && env.locals != env.globals)) = false := by
  rw [S.kind]; rfl

theorem local_kind (S : SS H0 A env pa B P s₀ X oa ρ p s) {x : Str} (hl : isLocal ρ x = true) : env.kindOf x = some .local := by
  obtain ⟨l, hx, hl⟩ := isLocal_look hl
  refine S.names.elim fun m n => ?_
  have := n.2 x l hx
  cases l with
  | val d => exact this.1
  | own xs => exact this.1
  | unb => exact this
  | _ => cases hl

/-- names that are not stored to keep what they say -/
theorem NmOK.store {W W' : Addr → Prop} {m m' : Str → Option Value} {h h' : Heap} {y : Str} {lv : LV} {oa' : Str → Addr} (hk : ∀ b o, h.get? b = some o → o.cls ≠ .type "frame" → h'.get? b = some o) (hc : ∀ c v, h.IsCell c v → h'.IsCell c v)
    (hm : m' y = m y) (hoa : oa' y = oa y) (hW : ∀ b, W' b → W b) (x : NmOK env oa pa W m h y lv) : NmOK env oa' pa W' m' h' y lv := by
  have hr : ∀ {v d}, Rd W h v d → Rd W' h' v d := fun r => r.imp fun as r => ⟨reads_but hk r.1, fun a m q => r.2 a m (hW a q)⟩
  cases lv with
  | val d => exact ⟨x.1, x.2.imp fun v b => ⟨hm.trans b.1, hr b.2⟩⟩
  | own xs =>
    unfold NmOK
    rw [hm, hoa]
    exact ⟨x.1, x.2.1, x.2.2.1.imp fun items l => ⟨l.1.imp fun o z => ⟨hk _ _ z.1 (cls_ne z.2.1 (by decide)), z.2⟩, l.2.imp fun as r => ⟨readsAll_but hk r.1, r.2⟩⟩, x.2.2.2⟩
  | cell d => exact x.imp fun c x => x.imp fun v b => ⟨b.1, b.2.1, hc _ _ b.2.2.1, hr b.2.2.2.1, b.2.2.2.2⟩
  | pen => exact ⟨x.1, x.2.imp fun a b => ⟨b.1, hm.trans b.2⟩⟩
  | _ => exact x

/-- what stays where only one object of the heap, no list, changes -/
theorem but_one {h h' : Heap} {a : Addr} {o : Obj} (ho : h.get? a = some o) (hc : o.cls = .type "frame") (hs : ∀ b, b ≠ a → h'.get? b = h.get? b) : ∀ b q, h.get? b = some q → q.cls ≠ .type "frame" → h'.get? b = some q := fun b q e n =>
  (hs b fun z => by subst z; rw [ho] at e; cases e; exact n hc).trans e
theorem cell_one {h h' : Heap} {a : Addr} {m : Str → Option Value} (hn : h.Ns a m) (hs : ∀ b, b ≠ a → h'.get? b = h.get? b) (c : Addr) (v : Option Value) (x : h.IsCell c v) : h'.IsCell c v :=
  x.imp fun o e => ⟨(hs c fun z => by
    subst z
    obtain ⟨o', es, ep, ho', hd', _⟩ := hn
    rw [e.1] at ho'; cases ho'
    have hd := e.2
    rw [hd'] at hd; cases hd).trans e.1, e.2⟩

/-- a store to a local name -/
theorem store_any {x : Str} {v : Value} {lv : LV} {oa' : Str → Addr} {Q : Unit → Shared → Prop} (S : SS H0 A env pa B P s₀ X oa ρ p s) (hl : isLocal ρ x = true) (hoa : ∀ y, y ≠ x → oa' y = oa y)
    (hW : ∀ b, Ow oa' pa (put ρ x lv) b ∨ X b → Ow oa pa ρ b ∨ X b) (hnew : ∀ m h', (∀ b o, s.heap.get? b = some o → o.cls ≠ .type "frame" → h'.get? b = some o) → m x = some v → NmOK env oa' pa (fun b => Ow oa' pa (put ρ x lv) b ∨ X b) m h' x lv)
    (ho : ∀ xs, lv = .own xs → ((P (oa' x) ∨ ¬ Live B (oa' x)) ∧ H0.get? (oa' x) = none) ∧ (∃ items, OwnL s.heap (oa' x) items) ∧ ∀ y ys, y ≠ x → look ρ y = some (.own ys) → oa y ≠ oa' x)
    (k : ∀ s', SS H0 A env pa B P s₀ X oa' (put ρ x lv) p s' → (∀ b o, s.heap.get? b = some o → o.cls ≠ .type "frame" → s'.heap.get? b = some o) → Q () s') : wpAny (model prog w) A (storeName env x v) Q E s := by
  have hx := isLocal_some hl
  refine S.names.elim fun m hm => S.lcls.elim fun oL l => ?_
  rw [storeName_local (local_kind S hl) (storable_kind S)]
  refine fun Γ pp _ => wp_nsSet_cls _ Γ _ pp s hm.1 ⟨oL, l.1, l.2.1⟩ x v _ fun h' hn' hs hc => ?_
  have hk := but_one l.1 l.2.1 hs.2
  have hown : ∀ {a items}, OwnL s.heap a items → OwnL h' a items := fun z => z.imp fun n z => z.imp fun sl e => hk _ _ e (cls_ne rfl (by decide))
  refine k _ (S.names_only (fun b o hb e => (hs.2 b hb).trans e) hn' hc (fun y lv' hy => ?_) (fun y lv' hy => ?_) (fun y ys hy => ?_) fun y ys z zs hy hz e => ?_) hk
  · exact look_put_go hx hy (fun e _ => e ▸ hx.elim fun l h => S.nodebug _ _ h) fun _ h => S.nodebug _ _ h
  · exact look_put_go hx hy (fun e e' => by subst e; subst e'; exact hnew _ _ hk (if_pos rfl)) fun e h => (hm.2 y lv' h).store hk (cell_one hm.1 hs.2) (if_neg e) (hoa y e) hW
  · exact look_put_go hx hy (fun e e' => by subst e; exact ⟨(ho ys e').1, (ho ys e').2.1.imp fun _ => hown⟩) fun e h => by rw [hoa y e]; exact ⟨(S.own y ys h).1, (S.own y ys h).2.imp fun _ => hown⟩
  · refine look_put_go hx hy (fun e1 e1' => look_put_go hx hz (fun e2 _ => e1.trans e2.symm) fun e2 h2 => ?_) fun e1 h1 => look_put_go hx hz (fun e2 e2' => ?_) fun e2 h2 => ?_
    · rw [hoa z e2, e1] at e
      exact absurd e.symm ((ho ys e1').2.2 z zs e2 h2)
    · rw [hoa y e1, e2] at e
      exact absurd e ((ho zs e2').2.2 y ys e1 h1)
    · rw [hoa y e1, hoa z e2] at e
      exact S.inj y ys z zs h1 h2 e

theorem storable_or {d : PyData} (hs : storable ρ d = true) : flat d = true ∨ noOwn ρ = true := by
  unfold storable at hs
  exact Bool.or_eq_true _ _ ▸ hs
theorem store_val {x : Str} {v : Value} {d : PyData} {Q : Unit → Shared → Prop} (S : SS H0 A env pa B P s₀ X oa ρ p s) (hl : isLocal ρ x = true) (hs : storable ρ d = true) (r : Rd (pens pa) s.heap v d) (hX : flat d = true ∨ ∀ b, ¬ X b)
    (k : ∀ s', SS H0 A env pa B P s₀ X oa (put ρ x (.val d)) p s' → (∀ b o, s.heap.get? b = some o → o.cls ≠ .type "frame" → s'.heap.get? b = some o) → Q () s') : wpAny (model prog w) A (storeName env x v) Q E s := by
  have hx := isLocal_some hl
  refine store_any S hl (fun _ _ => rfl) (lv := .val d) (fun b h => h.imp (ow_put hx (fun xs q => by cases q)) id) (fun m h' hk hm => ⟨local_kind S hl, v, hm, r.elim fun as rn => ?_⟩) (fun xs q => by cases q) k
  by_cases hf : flat d = true
  · have e := reads_flat rn.1 hf
    subst e
    exact .of (reads_but hk rn.1)
  · have hno := (storable_or hs).resolve_left hf
    have hX' := hX.resolve_left hf
    exact ⟨as, reads_but hk rn.1, fun a m q => q.elim (fun q => q.elim (rn.2 a m) fun q => q.elim fun y q => q.elim fun ys q => look_put_go hx q.1 (fun _ e => by cases e) fun _ e => noOwn_look hno e) (hX' a)⟩

theorem store_own {x : Str} {a : Addr} {xs : List PyData} {items : Array Value} {Q : Unit → Shared → Prop} (S : SS H0 A env pa B P s₀ X oa ρ p s) (hl : isLocal ρ x = true) (ol : OwnL s.heap a items) (r : Rds (fun _ => True) s.heap items.toList xs)
    (ha : X a) (hp : pa ≠ some a) (hB : (P a ∨ ¬ Live B a) ∧ H0.get? a = none) (hne : ∀ y ys, y ≠ x → look ρ y = some (.own ys) → oa y ≠ a)
    (k : ∀ s' oa', SS H0 A env pa B P s₀ X oa' (put ρ x (.own xs)) p s' → (∀ y, y ≠ x → oa' y = oa y) → oa' x = a → (∀ b o, s.heap.get? b = some o → o.cls ≠ .type "frame" → s'.heap.get? b = some o) → Q () s') : wpAny (model prog w) A (storeName env x (.ref a)) Q E s := by
  have hx := isLocal_some hl
  obtain ⟨oa', e1, e2⟩ : ∃ oa' : Str → Addr, oa' x = a ∧ ∀ y, y ≠ x → oa' y = oa y := ⟨fun y => if y = x then a else oa y, if_pos rfl, fun y hy => if_neg hy⟩
  subst e1
  exact store_any (oa' := oa') (lv := .own xs) S hl e2 (fun b h => h.elim (fun h => h.elim (fun h => .inl (.inl h)) fun h => h.elim fun y h => h.elim fun ys h => look_put_go hx h.1 (fun ey _ => .inr (h.2 ▸ ey ▸ ha)) fun ey hy => .inl (.inr ⟨y, ys, hy, (e2 y ey).symm.trans h.2⟩)) .inr)
    (fun m h' hk hm => ⟨local_kind S hl, hm, ⟨items, ol.isList.imp fun o z => ⟨hk _ _ z.1 (cls_ne z.2.1 (by decide)), z.2⟩, r.imp fun as r => ⟨readsAll_but hk r.1, r.2⟩⟩, hp⟩) (fun xs' q => ⟨hB, ⟨items, ol⟩, hne⟩) fun s' S' hk => k s' _ S' e2 rfl hk

/-- what a name may say behind a change of the list at b -/
noncomputable def Touched (oa : Str → Addr) (ρ : Loc) (b : Addr) (vs' : Array Value) (h' : Heap) (x : Str) (lv : LV) : Prop :=
  (look ρ x = some lv ∧ ∀ xs, lv = .own xs → oa x ≠ b) ∨ ∃ xs xs', look ρ x = some (.own xs') ∧ lv = .own xs ∧ oa x = b ∧ Rds (fun _ => True) h' vs'.toList xs ∧ OwnL h' b vs'
theorem Touched.was {b : Addr} {vs' : Array Value} {h' : Heap} {x : Str} {lv : LV} (t : Touched oa ρ b vs' h' x lv) : ∃ lv', look ρ x = some lv' ∧ ((∃ xs, lv = .own xs) → ∃ xs, lv' = .own xs) :=
  t.elim (fun t => ⟨lv, t.1, id⟩) fun t => t.elim fun xs t => t.elim fun xs' t => ⟨_, t.1, fun _ => ⟨xs', rfl⟩⟩
theorem Touched.own {b : Addr} {vs' : Array Value} {h' : Heap} {x : Str} {xs : List PyData} (t : Touched oa ρ b vs' h' x (.own xs)) : ∃ ys, look ρ x = some (.own ys) :=
  t.elim (fun t => ⟨xs, t.1⟩) fun t => t.elim fun _ t => t.elim fun ys t => ⟨ys, t.1⟩

/-- a list of the frame's own, or the pen, takes another content -/
theorem SS.touch {h' : Heap} {t : Nat} {b : Addr} {vs vs' : Array Value} {ρ' : Loc} {p' : Option Int} (S : SS H0 A env pa B P s₀ X oa ρ p s) (hb : s.heap.IsList b vs) (hs : Heap.SameBut b s.heap h') (hb' : h'.IsList b vs') (hB : P b ∨ ¬ Live B b)
    (hW : Ow oa pa ρ b ∨ X b) (hH : H0.get? b = none) (hlook : ∀ x lv, look ρ' x = some lv → Touched oa ρ b vs' h' x lv) (hpen : PenAt H0 pa p' h') : SS H0 A env pa B P s₀ X oa ρ' p' { s with heap := h', toks := t } := by
  refine Classical.byContradiction fun hno => hb.elim fun ob o1 => o1.2.2.elim fun nb hdb => hb'.elim fun ob' o2 => o2.2.2.elim fun nb' hdb' => S.names.elim fun m hm => S.lcls.elim fun oL l => ?_
  have hk : KeepS (fun a => a = b) s.heap h' := keepS_one o1.1 (fun a o ha e => (hs.2 a ha).trans e) (type_ne o1.2.1 (by decide)) o2.1 (o2.2.1.trans o1.2.1.symm) (nonRec_seq hdb')
  have hLb : env.locals ≠ b := by
    rintro rfl
    obtain ⟨o, es, ep, ho, hd, _⟩ := hm.1
    rw [o1.1] at ho; cases ho; rw [hdb] at hd; cases hd
  have howW : ∀ c, Ow oa pa ρ' c → Ow oa pa ρ c := fun c h => h.imp id fun h => h.elim fun y h => h.elim fun ys h => (hlook y _ h.1).own.elim fun zs e => ⟨y, zs, e, h.2⟩
  have keepW : ∀ {v d}, Rd (fun c => Ow oa pa ρ c ∨ X c) s.heap v d → Rd (fun c => Ow oa pa ρ' c ∨ X c) h' v d := fun r => (r.keep hk fun c hc => hc ▸ hW).wider fun c q _ => q.imp (howW c) id
  refine hno ⟨fun a o e => (hs.2 a fun z => by rw [z, hH] at e; cases e).trans (S.stays a o e), S.kind, S.glob, S.blt, fun x lv hx => (hlook x lv hx).was.elim fun lv' h => S.nodebug x lv' h.1, S.lpen, ⟨m, hm.1.imp fun o z => z.imp fun es z => z.imp fun ep z => ⟨(hs.2 _ hLb).trans z.1, z.2⟩, fun x lv hx => ?_⟩, hpen, fun l hl => (S.ff l hl).keep hk,
    S.keep.trans hk fun a e la => hB.elim (fun q => e ▸ q) fun n => absurd (e ▸ la) n, S.shape.elim fun h e => e.elim fun tt e => ⟨h', t, by rw [e]⟩, ⟨oL, (hs.2 _ hLb).trans l.1, l.2⟩, S.lp, S.lnew, S.penP, fun x xs hx => ?_, fun x xs y ys hx hy e => (hlook x _ hx).own.elim fun zx h1 => (hlook y _ hy).own.elim fun zy h2 => S.inj x zx y zy h1 h2 e⟩
  · rcases hlook x lv hx with ⟨hx', hne⟩ | ⟨xs, xs', hx', rfl, e, rr, _⟩
    · have n := hm.2 x lv hx'
      cases lv with
      | val d => exact ⟨n.1, n.2.imp fun v b => ⟨b.1, keepW b.2⟩⟩
      | own xs => exact ⟨n.1, n.2.1, n.2.2.1.imp fun items z => ⟨z.1.imp fun o z => ⟨(hs.2 _ (hne xs rfl)).trans z.1, z.2⟩, z.2.keep hk fun _ _ => trivial⟩, n.2.2.2⟩
      | cell d =>
        exact n.imp fun c n => n.imp fun v n => ⟨n.1, n.2.1, n.2.2.1.imp fun o z => ⟨(hs.2 _ fun q => by
          have hd := z.2
          rw [Option.some.inj (z.1.symm.trans (q ▸ o1.1)), hdb] at hd
          cases hd).trans z.1, z.2⟩, keepW n.2.2.2.1, n.2.2.2.2⟩
      | _ => exact n
    · have n := hm.2 x _ hx'
      exact ⟨n.1, n.2.1, ⟨vs', e ▸ hb', rr⟩, n.2.2.2⟩
  · rcases hlook x _ hx with ⟨hx', hne⟩ | ⟨ys, ys', hx', _, e, _, ol⟩
    · exact ⟨(S.own x xs hx').1, (S.own x xs hx').2.imp fun items z => z.imp fun n z => z.imp fun sl z => (hs.2 _ (hne xs rfl)).trans z⟩
    · exact ⟨(S.own x ys' hx').1, vs', e ▸ ol⟩
end
end Mine

set_option linter.all false
namespace Mine
open PySem PySem.W PyProof.Rows

noncomputable def IterB (h : Heap) (b : Addr) : Prop := ∃ o n vs, h.get? b = some o ∧ o.cls = .type n ∧ (plainIter n || n == "enumerate") = true ∧ o.data = .fields vs
theorem IterAt.b {h : Heap} {b : Addr} (x : IterAt h b) : IterB h b := let ⟨o, n, vs, a, b, c, d⟩ := x; ⟨o, n, vs, a, b, by rw [c]; rfl, d⟩
theorem IterB.cls {h : Heap} {b : Addr} (x : IterB h b) {o : Obj} (e : h.get? b = some o) : o.cls ≠ .type "frame" ∧ o.cls ≠ .type "list" ∧ o.cls ≠ .type "tuple" ∧ o.cls ≠ .type "dict" ∧ ∃ vs, o.data = .fields vs := by
  obtain ⟨o', n, vs, e', hc, hp, hd⟩ := x
  rw [e] at e'; cases e'
  have ne : ∀ t : String, (plainIter t || t == "enumerate") = false → o.cls ≠ .type t := by
    intro t ht q
    rw [hc] at q; injection q with q; subst q
    rw [hp] at ht; cases ht
  exact ⟨ne _ (by decide), ne _ (by decide), ne _ (by decide), ne _ (by decide), vs, hd⟩

noncomputable def ListLike (o : Obj) : Prop := o.cls = .type "list" ∨ o.cls = .type "tuple" ∨ o.cls = .type "dict"
theorem lists_both {h h' : Heap} (hk : ∀ b o, h.get? b = some o → ListLike o → h'.get? b = some o) : (∀ {v d as}, Reads h v d as → Reads h' v d as) ∧ ∀ {vs ds as}, ReadsAll h vs ds as → ReadsAll h' vs ds as :=
  reads_ind .none .bool .int .str (fun h1 h2 h3 h4 => .list (hk _ _ h1 (.inl h2)) h2 h3 h4) (fun h1 h2 h3 h4 => .tuple (hk _ _ h1 (.inr (.inl h2))) h2 h3 h4) (fun h1 h2 h3 h4 h5 => .dict (hk _ _ h1 (.inr (.inr h2))) h2 h3 h4 h5) .nil .cons
theorem reads_lists {h h' : Heap} (hk : ∀ b o, h.get? b = some o → ListLike o → h'.get? b = some o) {v : Value} {d : PyData} {as : List Addr} (r : Reads h v d as) : Reads h' v d as := (lists_both hk).1 r
theorem readsAll_lists {h h' : Heap} (hk : ∀ b o, h.get? b = some o → ListLike o → h'.get? b = some o) {vs : List Value} {ds : List PyData} {as : List Addr} (r : ReadsAll h vs ds as) : ReadsAll h' vs ds as := (lists_both hk).2 r
theorem IterB.noList {h : Heap} {b : Addr} (x : IterB h b) {o : Obj} (e : h.get? b = some o) : ¬ ListLike o := fun q => q.elim (x.cls e).2.1 fun q => q.elim (x.cls e).2.2.1 (x.cls e).2.2.2.1

structure Turns (prog : Program) (w : World) (A : Around) (W : Addr → Prop) (hl : Heap) (it : Value) (tg : Expr) (items : List PyData) (fp wr : List Addr) (T : Nat → Heap → Prop) : Prop where
  frame : ∀ i h h', T i h → (∀ b ∈ fp, ∀ o, h.get? b = some o → h'.get? b = some o) → T i h'
  iters : ∀ i h, T i h → ∀ b ∈ wr, IterB h b
  new : ∀ b ∈ wr, hl.get? b = none
  old : ∀ b ∈ fp, b ∈ wr ∨ ((∃ o, hl.get? b = some o ∧ o.cls ≠ .type "frame") ∧ ¬ W b)
  item : ∀ i (s : Shared) (Q : Value → Shared → Prop) (E : Value → Shared → Prop) d, items[i]? = some d → T i s.heap → KeepS W hl s.heap →
    (∀ v h' tk, T (i + 1) h' → (∀ b o, b ∉ wr → s.heap.get? b = some o → h'.get? b = some o) → Rd W h' v d → Q v { s with heap := h', toks := tk }) →
    wpAny (model prog w) A (pyNext it) (fun r s₁ => ∃ v, r = some v ∧ wpAny (model prog w) A (letOwnedTupleGo tg it v) (fun _ s₂ => Q v s₂) E s₁) E s
  done : ∀ (s : Shared) (Q : Shared → Prop) (E : Value → Shared → Prop), T items.length s.heap → (∀ h' tk, (∀ b o, b ∉ wr → s.heap.get? b = some o → h'.get? b = some o) → Q { s with heap := h', toks := tk }) →
    wpAny (model prog w) A (pyNext it) (fun r s₁ => r = none ∧ Q s₁) E s

section
variable {prog : Program} {w : World} {A : Around} {H0 : Heap} {mg mb : Str → Option Value} {XP : Heap → Heap → Value → Exc → Prop}
variable {C : CallP} {env : Env} {pa : Option Addr} {B : Heap} {P : Addr → Prop} {s₀ : Shared} {X : Addr → Prop} {oa : Str → Addr} {ρ : Loc} {p : Option Int} {s : Shared} {E : Value → Shared → Prop} {n : Nat}

theorem plain_no {n : String} (hn : plainIter n = true) : (["enumerate", "zip", "dict_itemiterator", "dict_reverseitemiterator", "odict_iterator", "itertools.zip_longest", "itertools.pairwise"].contains n) = false := by
  have hm := List.contains_iff_mem.mp hn
  revert n
  simp only [List.mem_cons, List.not_mem_nil, or_false]
  rintro n - (rfl | rfl | rfl | rfl) <;> decide
theorem letGo_any {tg : Expr} {I : Addr} {v : Value} {Q : Unit → Shared → Prop} (h1 : IterAt s.heap I) (h : Q () s) : wpAny (model prog w) A (letOwnedTupleGo tg (.ref I) v) Q E s := by
  have key : wpAny (model prog w) A (do
      let (.ref r, .ref a) := ((.ref I, v) : Value × Value) | return
      let o ← load r
      match o.cls, o.data with
      | .type n, .fields vs =>
        if ["enumerate", "zip", "dict_itemiterator", "dict_reverseitemiterator", "odict_iterator", "itertools.zip_longest", "itertools.pairwise"].contains n && vs[0]? == some (rawInt a) then
          rule "for.unpacks-the-owned-tuple"
          updateField r 0 .none
      | _, _ => pure () : Sem Unit) Q E s := by
    cases v with
    | ref a =>
      obtain ⟨o, n, vs, ho, hc, hn, hd⟩ := h1
      refine wpAny_bind (wpAny_load ho ?_)
      rw [hc, hd]
      show wpAny _ A (if (["enumerate", "zip", "dict_itemiterator", "dict_reverseitemiterator", "odict_iterator", "itertools.zip_longest", "itertools.pairwise"].contains n && vs[0]? == some (rawInt a)) = true then _ else _) Q E s
      rw [plain_no hn, Bool.false_and, if_neg (by decide)]
      exact wpAny_pure h
    | _ => exact wpAny_pure h
  cases tg with
  | Tuple a b c => exact key
  | List a b => exact key
  | _ => exact wpAny_pure h

/-- the iterators alone change -/
theorem SS.next {h' : Heap} {t : Nat} {wr : List Addr} (S : SS H0 A env pa B P s₀ X oa ρ p s) (hB : H0.StaysIn B) (hk : ∀ b o, b ∉ wr → s.heap.get? b = some o → h'.get? b = some o) (hw : ∀ b ∈ wr, IterB s.heap b) (hn : ∀ b ∈ wr, B.get? b = none) :
    SS H0 A env pa B P s₀ X oa ρ p { s with heap := h', toks := t } := by
  have k1 : ∀ b o, s.heap.get? b = some o → (∀ vs, o.data ≠ .fields vs) → h'.get? b = some o := fun b o e hd => hk b o (fun m => ((hw b m).cls e).2.2.2.2.elim fun vs q => hd vs q) e
  have k2 : ∀ b o, s.heap.get? b = some o → ListLike o → h'.get? b = some o := fun b o e hc => hk b o (fun m => (hw b m).noList e hc) e
  have kf : ∀ b o, s.heap.get? b = some o → o.cls = .type "frame" → h'.get? b = some o := fun b o e hc => hk b o (fun m => ((hw b m).cls e).1 hc) e
  have hbw : ∀ b o, B.get? b = some o → b ∉ wr := fun b o e m => by rw [hn b m] at e; cases e
  have rr : ∀ {W : Addr → Prop} {v d}, Rd W s.heap v d → Rd W h' v d := fun r => r.imp fun as r => ⟨reads_lists k2 r.1, r.2⟩
  refine ⟨fun b o e => hk b o (hbw b o (hB b o e)) (S.stays b o e), S.kind, S.glob, S.blt, S.nodebug, S.lpen, S.names.imp fun m n => ⟨n.1.imp fun o z => z.imp fun es z => z.imp fun ep z => ⟨k1 _ _ z.1 (nonRec_dict z.2.1), z.2⟩, fun x lv hx => ?_⟩, ?_,
    fun l hl env' me => ⟨(S.ff l hl env' me).1, (S.ff l hl env' me).2.imp fun L z => z.imp fun o z => ⟨z.1, z.2.1, kf _ _ z.2.2.1 z.2.2.2.1, z.2.2.2⟩⟩,
    fun b o e => (S.keep b o e).imp (hk b _ (hbw b o e)) fun z => z.imp (fun z => ⟨z.1, z.2.imp fun sl x => hk b _ (hbw b o e) x⟩) fun z => ⟨z.1, z.2.1, z.2.2.imp fun o' x => ⟨hk b _ (hbw b o e) x.1, x.2⟩⟩,
    S.shape.elim fun h e => e.elim fun tt e => ⟨h', t, by rw [e]⟩, S.lcls.imp fun oL l => ⟨kf _ _ l.1 l.2.1, l.2⟩, S.lp, S.lnew, S.penP, fun x xs hx => ⟨(S.own x xs hx).1, (S.own x xs hx).2.imp fun items z => z.imp fun nn z => z.imp fun sl b => k2 _ _ b (.inl rfl)⟩, S.inj⟩
  · have n := n.2 x lv hx
    cases lv with
    | val d => exact ⟨n.1, n.2.imp fun v b => ⟨b.1, rr b.2⟩⟩
    | own xs => exact ⟨n.1, n.2.1, n.2.2.1.imp fun items l => ⟨l.1.imp fun o z => ⟨k2 _ _ z.1 (.inl z.2.1), z.2⟩, l.2.imp fun as r => ⟨readsAll_lists k2 r.1, r.2⟩⟩, n.2.2.2⟩
    | cell d => exact n.imp fun c n => n.imp fun v n => ⟨n.1, n.2.1, n.2.2.1.imp fun o z => ⟨k1 _ _ z.1 (fun vs q => by rw [z.2] at q; cases q), z.2⟩, rr n.2.2.2.1, n.2.2.2.2⟩
    | _ => exact n
  · have q := S.pen
    cases pa with
    | none => cases p <;> exact q
    | some a => cases p with
      | none => exact q
      | some k => exact ⟨q.1.imp fun tt l => l.imp fun o z => ⟨k2 _ _ z.1 (.inl z.2.1), z.2⟩, q.2⟩

noncomputable def noX : Addr → Prop := fun _ => False
noncomputable def loopP (env : Env) (oa : Str → Addr) (pa : Option Addr) (ρ : Loc) : Addr → Prop := fun b => b = env.locals ∨ Ow oa pa ρ b

theorem SS.rebase (S : SS H0 A env pa B P s₀ noX oa ρ p s) : SS H0 A env pa s.heap (loopP env oa pa ρ) s noX oa ρ p s :=
  ⟨S.stays, S.kind, S.glob, S.blt, S.nodebug, S.lpen, S.names, S.pen, S.ff, .refl _ _, ⟨s.heap, s.toks, rfl⟩, S.lcls, .inl (.inl rfl), S.lnew, fun _ h => .inl (.inr (.inl h)),
   fun x xs hx => ⟨⟨.inl (.inr (.inr ⟨x, xs, hx, rfl⟩)), (S.own x xs hx).1.2⟩, (S.own x xs hx).2⟩, S.inj⟩

theorem SS.unbase {s' : Shared} {oa' : Str → Addr} {ρ' : Loc} {p' : Option Int} (S : SS H0 A env pa B P s₀ noX oa ρ p s) (S' : SS H0 A env pa s.heap (loopP env oa pa ρ) s noX oa' ρ' p' s') : SS H0 A env pa B P s₀ noX oa' ρ' p' s' := by
  have hq : ∀ b, loopP env oa pa ρ b → P b ∨ ¬ Live B b := fun b h => h.elim (fun e => e ▸ S.lp) fun h => h.elim (S.penP b) fun h => h.elim fun x h => h.elim fun xs h => h.2 ▸ (S.own x xs h.1).1.1
  exact ⟨S'.stays, S'.kind, S'.glob, S'.blt, S'.nodebug, S'.lpen, S'.names, S'.pen, S'.ff, S.keep.trans S'.keep fun b h l => (hq b h).elim id fun n => absurd l n,
    S.shape.elim fun h e => e.elim fun t e => S'.shape.elim fun h' e' => e'.elim fun t' e' => ⟨h', t', by rw [e', e]⟩, S'.lcls, S.lp, S.lnew, S.penP,
    fun x xs hx => ⟨⟨(S'.own x xs hx).1.1.elim (hq _) fun a => .inr fun l => a (S.keep.live l), (S'.own x xs hx).1.2⟩, (S'.own x xs hx).2⟩, S'.inj⟩

theorem turns_of_it {W : Addr → Prop} {s₁ s₂ : Shared} {it : Value} {items : List PyData} {tg : Expr} (io : ItOK prog w A W s₁ s₂ it items) : ∃ fp wr T, Turns prog w A W s₁.heap it tg items fp wr T ∧ T 0 s₂.heap := by
  obtain ⟨I, fp, wr, Pv, T, rfl, Wk, h0, hfp, hwr, hfw, hit, hI, hP⟩ := io
  refine ⟨fp, wr, T, ⟨fun i h h' => Wk.frame i h h', fun i h ht b hb => (hit i h ht b hb).b, hwr, hfw, fun i s Q E d hd ht hk hQ => Wk.item i s _ E (List.getElem?_eq_some_iff.mp hd).1 ht fun v h' tk hv ht' hkk => ⟨v, rfl, letGo_any (hit _ _ ht' I hI) ?_⟩,
    fun s Q E ht hQ => Wk.done s _ E ht fun h' tk hk => ⟨rfl, hQ h' tk hk⟩⟩, h0⟩
  refine (hP i v hv).elim fun d' z => hQ v h' tk ht' hkk ?_
  have e := z.1
  rw [hd] at e; cases e
  exact (z.2.keep hk fun _ q => q).imp fun as r => ⟨reads_lists (fun b o e hc => hkk b o (fun m => (hit i _ ht b m).b.noList e hc) e) r.1, r.2⟩

noncomputable def FlOK (pa : Option Addr) (h : Heap) : Fl → Flow → Prop
  | .next, .next => True
  | .brk, .brk => True
  | .cont, .cont => True
  | .ret d, .ret v => Rd (pens pa) h v d
  | _, _ => False

noncomputable def XPost (H0 : Heap) (A : Around) (XP : Heap → Heap → Value → Exc → Prop) (env : Env) (pa : Option Addr) (B : Heap) (P : Addr → Prop) (s₀ : Shared) (Q : Flow → Shared → Prop) (E : Value → Shared → Prop) : Res (Fl × Loc) → Prop
  | .ok r p' => ∀ f s' oa', SS H0 A env pa B P s₀ noX oa' r.2 p' s' → FlOK pa s'.heap r.1 f → Q f s'
  | .err x p' => ∀ e s' hb, (∃ h' tk, s' = { s₀ with heap := h', toks := tk }) → KeepS P B s'.heap → H0.StaysIn s'.heap → PenAt H0 pa p' s'.heap → (∀ b, Live B b → Live hb b) → XP hb s'.heap e x → E e s'
  | .stuck => False

theorem seqX {α β : Type} {M : Model} {t : Sem α} {r : Res β} {f : β → Option Int → Res (Fl × Loc)} {V : Heap → α → β → Prop} {K : α → Shared → Prop} {Q : Flow → Shared → Prop} (S : SS H0 A env pa B P s₀ X oa ρ p s)
    (ih : ∀ Q, GPost H0 XP (RN H0 pa) pa V Q E s r → wpAny M A t Q E s) (h : XPost H0 A XP env pa B P s₀ Q E (r.bind f))
    (k : ∀ v d p₁ s₁, SS H0 A env pa B P s₀ X oa ρ p₁ s₁ → RN H0 pa s s₁ → V s₁.heap v d → XPost H0 A XP env pa B P s₀ Q E (f d p₁) → K v s₁) : wpAny M A t K E s := by
  refine ih K ?_
  cases r with
  | ok d p => exact fun v s' r' q x => k v d p s' (S.step r' q) r' x h
  | err x p =>
    intro e s' hb r' q l xp
    have S' := S.step r' q
    exact h e s' hb S'.shape S'.keep S'.stays q (fun b lb => l b (S.keep.live lb)) xp
  | stuck => exact h

theorem ofOpt_x {γ : Type} {Q : Flow → Shared → Prop} {o : Option γ} {f : γ → Option Int → Res (Fl × Loc)} (h : XPost H0 A XP env pa B P s₀ Q E ((Res.ofOpt p o).bind f)) : ∃ d, o = some d ∧ XPost H0 A XP env pa B P s₀ Q E (f d p) := by
  cases o with
  | none => exact h.elim
  | some d => exact ⟨d, rfl, h⟩
theorem onSome_x {γ : Type} {Q : Flow → Shared → Prop} {o : Option γ} {f : γ → Res (Fl × Loc)} (h : XPost H0 A XP env pa B P s₀ Q E (onSome o f)) : ∃ d, o = some d ∧ XPost H0 A XP env pa B P s₀ Q E (f d) := by
  cases o with
  | none => exact h.elim
  | some d => exact ⟨d, rfl, h⟩
theorem when_x {Q : Flow → Shared → Prop} {c : Bool} {r : Res (Fl × Loc)} (h : XPost H0 A XP env pa B P s₀ Q E (Res.when c r)) : c = true ∧ XPost H0 A XP env pa B P s₀ Q E r := by
  cases c with
  | true => exact ⟨rfl, h⟩
  | false => exact h.elim

/-- what one statement does, at any base -/
noncomputable def SX (prog : Program) (w : World) (A : Around) (H0 : Heap) (XP : Heap → Heap → Value → Exc → Prop) (env : Env) (pa : Option Addr) (st : Stmt) (f : Loc → Option Int → Res (Fl × Loc)) : Prop :=
  ∀ {B : Heap} {P : Addr → Prop} {s₀ : Shared} {oa : Str → Addr} {ρ : Loc} {p : Option Int} {s : Shared} {Q : Flow → Shared → Prop} {E : Value → Shared → Prop}, SS H0 A env pa B P s₀ noX oa ρ p s → XPost H0 A XP env pa B P s₀ Q E (f ρ p) → wpAny (model prog w) A (exec st env) Q E s
noncomputable def SXs (prog : Program) (w : World) (A : Around) (H0 : Heap) (XP : Heap → Heap → Value → Exc → Prop) (env : Env) (pa : Option Addr) (st : List Stmt) (f : Loc → Option Int → Res (Fl × Loc)) : Prop :=
  ∀ {B : Heap} {P : Addr → Prop} {s₀ : Shared} {oa : Str → Addr} {ρ : Loc} {p : Option Int} {s : Shared} {Q : Flow → Shared → Prop} {E : Value → Shared → Prop}, SS H0 A env pa B P s₀ noX oa ρ p s → XPost H0 A XP env pa B P s₀ Q E (f ρ p) → wpAny (model prog w) A (execs st env) Q E s

theorem exs_sound {f : Loc → Option Int → Stmt → Res (Fl × Loc)} (ih : ∀ st, SX prog w A H0 XP env pa st fun ρ p => f ρ p st) (l : List Stmt) : SXs prog w A H0 XP env pa l (exsP f l) := by
  induction l with
  | nil => exact fun S h => wpAny_execs_nil (h .next _ _ S trivial)
  | cons st r ihl =>
    intro B P s₀ oa ρ p s Q E S h
    refine wpAny_execs_cons (ih st S ?_)
    unfold exsP at h
    dsimp only
    cases hr : f ρ p st with
    | ok q p₁ =>
      rw [hr] at h
      obtain ⟨fl, ρ₁⟩ := q
      intro g s' oa' S' hf
      cases fl <;> cases g <;> first | exact hf.elim | skip
      · exact ihl S' h
      · exact h _ s' oa' S' hf
      · exact h _ s' oa' S' hf
      · exact h _ s' oa' S' hf
    | err x p₁ => rw [hr] at h; exact h
    | stuck => rw [hr] at h; exact h.elim
end
end Mine

set_option linter.all false
namespace Mine
open PySem PySem.W PyProof.Rows

theorem rds_flat {W W' : Addr → Prop} {h : Heap} {vs : List Value} {ds : List PyData} (r : Rds W h vs ds) (hf : flats ds = true) : Rds W' h vs ds :=
  let ⟨as, rr, _⟩ := r; ⟨as, rr, fun a m => by rw [readsAll_flat rr hf] at m; cases m⟩

section
variable {prog : Program} {w : World} {A : Around} {H0 : Heap} {mg mb : Str → Option Value} {XP : Heap → Heap → Value → Exc → Prop}
variable {C : CallP} {env : Env} {pa : Option Addr} {B : Heap} {P : Addr → Prop} {s₀ : Shared} {X : Addr → Prop} {oa : Str → Addr} {ρ : Loc} {p : Option Int} {s : Shared} {E : Value → Shared → Prop} {n : Nat} {Q : Flow → Shared → Prop}

/-- what the frame's terms are known to do -/
noncomputable abbrev EvF (prog : Program) (w : World) (A : Around) (H0 : Heap) (XP : Heap → Heap → Value → Exc → Prop) (C : CallP) (env : Env) (pa : Option Addr) (n : Nat) : Prop :=
  ∀ {oa ρ p s}, St H0 A env oa pa ρ p s → ∀ e Q E, GPost H0 XP (RN H0 pa) pa (Rd (pens pa)) Q E s (evP n C false ρ p e) → wpAny (model prog w) A (eval e env) Q E s
noncomputable abbrev EvT (prog : Program) (w : World) (A : Around) (H0 : Heap) (XP : Heap → Heap → Value → Exc → Prop) (C : CallP) (env : Env) (pa : Option Addr) (n : Nat) : Prop :=
  ∀ {oa ρ p s}, St H0 A env oa pa ρ p s → ∀ e Q E, GPost H0 XP (RN H0 pa) pa VB Q E s (evP n C true ρ p e) → wpAny (model prog w) A (isTrue e env (eval e env)) Q E s

theorem setVal_inv {x : Str} {d : PyData} {ρ' : Loc} (h : setVal ρ x d = some ρ') : storable ρ d = true ∧ isLocal ρ x = true ∧ ρ' = put ρ x (.val d) :=
  have c := only_inv h
  have q := Bool.and_eq_true_iff.mp c.1
  ⟨q.1, q.2, (Option.some.inj c.2).symm⟩
theorem noX_not (b : Addr) : ¬ noX b := fun h => h

theorem plain_swaps {m : Bool} {e : Expr} {x : Str} {xp : Pos} {l : Nat} (h1 : asComp e = none) (h : evP n C m ρ p e ≠ .stuck) : swapsWith e (some (.Name x xp)) l env = pure false := by
  cases e with
  | ListComp _ _ _ _ => cases h1
  | SetComp a b c d => exact absurd (by cases n <;> cases m <;> rfl) h
  | DictComp a b c d k => exact absurd (by cases n <;> cases m <;> rfl) h
  | _ => rfl
theorem bind_stuck {β : Type} {r : Res β} {f : β → Option Int → Res (Fl × Loc)} (h : XPost H0 A XP env pa B P s₀ Q E (r.bind f)) : r ≠ .stuck := by
  rintro rfl; exact h
/-- a value goes to a name -/
theorem setR_sound {x : Str} {v : Value} {d : PyData} (S : SS H0 A env pa B P s₀ noX oa ρ p s) (x₁ : Rd (pens pa) s.heap v d) (h : XPost H0 A XP env pa B P s₀ Q E (setR ρ x d p)) : wpAny (model prog w) A (storeName env x v) (fun _ s' => Q .next s') E s :=
  (ofOpt_x h).elim fun ρ' e => have z := setVal_inv e.1
    store_val S z.2.1 z.1 x₁ (.inr noX_not) fun s' S' _ => e.2 .next s' oa (z.2.2 ▸ S') trivial

theorem st_assign {x : Str} {xp pos : Pos} {e : Expr} (ev : EvF prog w A H0 XP C env pa n) (hne : asComp e = none) (S : SS H0 A env pa B P s₀ noX oa ρ p s)
    (h : XPost H0 A XP env pa B P s₀ Q E ((evP n C false ρ p e).bind (setR ρ x))) : wpAny (model prog w) A (exec (.Assign [.Name x xp] e pos) env) Q E s :=
  wpAny_Assign_Name (seqX S (ev S.st e · E) h fun v d p₁ s₁ S₁ r₁ x₁ h₁ => setR_sound S₁ x₁ h₁) (plain_swaps hne (bind_stuck h))

theorem evP_name {x : Str} {xp : Pos} : evP n C false ρ p (.Name x xp) = .stuck ∨ evP n C false ρ p (.Name x xp) = Res.ofOpt p (lvOf (look ρ x)) := by
  cases n with
  | zero => exact .inl rfl
  | succ n => exact .inr rfl

theorem st_aug {x : Str} {xp pos : Pos} {op : Operator} {e : Expr} (ev : EvF prog w A H0 XP C env pa n) (S : SS H0 A env pa B P s₀ noX oa ρ p s)
    (h : XPost H0 A XP env pa B P s₀ Q E (augX (evP n C false ρ) ρ p x xp op e)) : wpAny (model prog w) A (exec (.AugAssign (.Name x xp) op e pos) env) Q E s := by
  unfold augX at h
  rcases evP_name (C := C) (ρ := ρ) (p := p) (n := n) (x := x) (xp := xp) with q | q
  · rw [q] at h; exact h.elim
  rw [q] at h
  refine (ofOpt_x h).elim fun a ha => wpAny_AugAssign_Name (load_sound S.st ha.1 fun v rv => seqX S (ev S.st e · E) ha.2 fun u b p₁ s₁ S₁ r₁ x₁ h₁ => (ofOpt_x h₁).elim fun d e => ?_)
  have rv' : Rd (pens pa) s₁.heap v a := rv.keep ((isR_RN H0 pa).keepS r₁) fun _ q => q
  have e1 := e.1
  cases op with
  | Add =>
    refine int2 (M := fun v u => wpAny (model prog w) A (inplaceOp .Add v u) _ E s₁) e1 rv' x₁ fun i t j t' z => ?_
    cases z
    exact PyProof.Rows.iadd_int (setR_sound (S₁.keeps (keeps_toks ..)) (.int ..) e.2)
  | Sub =>
    refine int2 (M := fun v u => wpAny (model prog w) A (inplaceOp .Sub v u) _ E s₁) e1 rv' x₁ fun i t j t' z => ?_
    cases z
    exact PyProof.Rows.isub_int (setR_sound (S₁.keeps (keeps_toks ..)) (.int ..) e.2)
  | _ => exact no_some e1

theorem st_if {t : Expr} {a b : List Stmt} {pos : Pos} {f : Loc → Option Int → Stmt → Res (Fl × Loc)} (ev : EvT prog w A H0 XP C env pa n) (ih : ∀ st, SX prog w A H0 XP env pa st fun ρ p => f ρ p st) (S : SS H0 A env pa B P s₀ noX oa ρ p s)
    (h : XPost H0 A XP env pa B P s₀ Q E ((evP n C true ρ p t).bind (onBool (fun p => exsP f a ρ p) fun p => exsP f b ρ p))) : wpAny (model prog w) A (exec (.If t a b pos) env) Q E s := by
  refine wpAny_If (seqX S (ev S.st t · E) h fun c d p₁ s₁ S₁ r₁ x₁ h₁ => ?_)
  obtain rfl : d = _ := x₁
  cases c
  · exact exs_sound ih b S₁ h₁
  · exact exs_sound ih a S₁ h₁

theorem st_return {e : Expr} {pos : Pos} (ev : EvF prog w A H0 XP C env pa n) (S : SS H0 A env pa B P s₀ noX oa ρ p s)
    (h : XPost H0 A XP env pa B P s₀ Q E ((evP n C false ρ p e).bind fun d p => .ok (.ret d, ρ) p)) : wpAny (model prog w) A (exec (.Return (some e) pos) env) Q E s :=
  wpAny_Return_some (seqX S (ev S.st e · E) h fun v _ _ s₁ S₁ _ x₁ h₁ => h₁ (.ret v) s₁ oa S₁ x₁)
theorem st_return0 {pos : Pos} (S : SS H0 A env pa B P s₀ noX oa ρ p s) (h : XPost H0 A XP env pa B P s₀ Q E (.ok (.ret .none, ρ) p)) : wpAny (model prog w) A (exec (.Return none pos) env) Q E s :=
  wpAny_Return_none (h (.ret .none) s oa S .none)

theorem not_h0 {h : Heap} {a : Addr} (st : H0.StaysIn h) (hn : ¬ Live h a) : H0.get? a = none := Option.eq_none_iff_forall_ne_some.mpr fun o e => hn ⟨o, st a o e⟩
theorem size_not_live (s : Shared) : ¬ Live s.heap s.heap.objs.size := not_live_of_none (get_size _)

/-- a fresh list becomes the name's own -/
theorem list_fin {x : Str} {xs : List PyData} {h' : Heap} {tk : Nat} {items : Array Value} {c' : Nat} (S₁ : SS H0 A env pa B P s₀ noX oa ρ p s) (hl : isLocal ρ x = true) (hk : ∀ b o, s.heap.get? b = some o → h'.get? b = some o)
    (ho : h'.get? s.heap.objs.size = some { cls := .type "list", dict := none, data := .seq items c', slots := #[] }) (hr : Rds (fun _ => True) h' items.toList xs) (h₁ : XPost H0 A XP env pa B P s₀ Q E (goOn (put ρ x (.own xs)) p)) :
    wpAny (model prog w) A (storeName env x (.ref s.heap.objs.size)) (fun _ => Q .next) E { s with heap := h', toks := tk } := by
  have hnl := size_not_live s
  have S₂ := (S₁.fresh (Y := fun b => b = s.heap.objs.size) fun b e => e ▸ hnl).keeps (s' := { s with heap := h', toks := tk }) ⟨h', tk, rfl, hk⟩
  exact store_own S₂ hl ⟨c', #[], ho⟩ hr (.inr rfl) (fun q => Nat.lt_irrefl _ (S₁.pen.old s.heap.objs.size q)) ⟨.inr fun l => hnl (S₁.keep.live l), not_h0 S₁.stays hnl⟩ (fun y ys _ hy e => (S₁.own y ys hy).2.elim fun items z => z.elim fun n z => z.elim fun sl ho => by rw [e, get_size] at ho; cases ho)
    fun s' oa' S' _ _ _ => h₁ .next s' oa' (S'.less fun b q _ => q.elim) trivial
theorem chars_rds {h' : Heap} {vs : List Value} : ∀ {cs : List Nat}, vs.length = cs.length → (∀ (j : Nat) (v : Value), vs[j]? = some v → ∃ c u, cs[j]? = some c ∧ v = Value.str ⟨#[c]⟩ u) → Rds (fun _ => True) h' vs (cs.map fun c => PyData.str ⟨#[c]⟩) := by
  induction vs with
  | nil => intro cs hl _; cases cs with | nil => exact .nil | cons _ _ => cases hl
  | cons v vs ih =>
    intro cs hl hv
    cases cs with
    | nil => cases hl
    | cons c cs =>
      obtain ⟨c', u, hc', rfl⟩ := hv 0 v rfl
      cases hc'
      exact .cons (.str ..) (ih (Nat.succ.inj hl) fun j v h => hv (j + 1) v h)

theorem asName_same {e : Expr} {x : Str × Pos} (h : asName e = some x) : e = .Name x.1 x.2 := asName_inv h
/-- a list made of another or of a str becomes the name's own -/
theorem st_list {x f : Str} {xp fp pos cp : Pos} {e : Expr} (G : Glo H0 mg mb) (hh : A.handled = none) (ev : EvF prog w A H0 XP C env pa n) (S : SS H0 A env pa B P s₀ noX oa ρ p s) (hf : (f == ("list" : Str) && isGlob ρ f && notStar e) = true)
    (h : XPost H0 A XP env pa B P s₀ Q E (listX (evP n C false ρ) ρ p x e)) : wpAny (model prog w) A (exec (.Assign [.Name x xp] (.Call (.Name f fp) [e] [] cp) pos) env) Q E s := by
  have hf1 := Bool.and_eq_true_iff.mp hf
  have hf2 := Bool.and_eq_true_iff.mp hf1.1
  obtain rfl := eq_of_beq hf2.1
  have g := G.boot "list" (by decide)
  refine wpAny_Assign_Name (wpAny_Call_NameR (globB_sound G S.st (isGlobL_inv hf2.2) g.1 (g.2.trans Boot.«list») (PyProof.Rows.callWith_type1 ?_ (starEach_cons hf1.2) rfl)))
  rw [backTo_cons hf1.2]
  refine Calls.spliced_cons (seqX S (ev S.st e · E) h fun v d p₁ s₁ S₁ r₁ x₁ h₁ => Calls.spliced_nil (Classical.byContradiction fun hn => ?_))
  obtain ⟨xs, hi, h₂⟩ := ofOpt_x h₁
  have h₃ := when_x h₂
  have hc1 := Bool.and_eq_true_iff.mp h₃.1
  have hc2 := Bool.and_eq_true_iff.mp hc1.1
  have hsz := of_decide_eq_true hc1.2
  cases d with
  | list ys =>
    cases hi
    obtain ⟨a, items, rfl, ⟨o, ho, hoc, nn, hod⟩, rl, _⟩ := x₁.list_inv
    rw [← rl.length] at hsz
    exact hn (call_list_seq a (.inl rfl) ho hoc hod (fun h' c' hk hn => list_fin (tk := s₁.toks) S₁ hc2.2 hk hn ((rds_flat (W' := fun _ => True) rl hc2.1).keep (P' := fun _ => False) (.of_exact hk) fun _ h => h.elim) h₃.2) hsz)
  | str y =>
    cases hi
    obtain ⟨t, rfl⟩ := x₁.str_inv
    have hlen : (charsOf y).length = y.cps.size := List.length_map ..
    rw [hlen] at hsz
    refine hn (call_list_str hh y t (fun h' tk acc' c' hk hn hacc => list_fin (tk := tk) S₁ hc2.2 hk hn (chars_rds (cs := y.cps.toList) (And.left hacc) fun j v hv => (And.right hacc j v (by rw [← Array.getElem?_toList]; exact hv)).imp fun c z => z.imp fun u z => ⟨by rw [Array.getElem?_toList]; exact z.1, z.2⟩) h₃.2) hsz)
  | _ => cases hi
end
end Mine

set_option linter.all false
namespace Mine
open PySem PySem.W PyProof.Rows

section
variable {prog : Program} {w : World} {A : Around} {H0 : Heap} {mg mb : Str → Option Value} {XP : Heap → Heap → Value → Exc → Prop}
variable {C : CallP} {env : Env} {pa : Option Addr} {B : Heap} {P : Addr → Prop} {s₀ : Shared} {X : Addr → Prop} {oa : Str → Addr} {ρ : Loc} {p : Option Int} {s : Shared} {E : Value → Shared → Prop} {n : Nat} {Q : Flow → Shared → Prop}

theorem setVals_names {ts : List Expr} : ∀ {ds : List PyData} {ρ ρ' : Loc}, setVals ρ ts ds = some ρ' → ts.length = ds.length ∧ ∀ e ∈ ts, ∃ x xp, e = .Name x xp := by
  induction ts with
  | nil => intro ds ρ ρ' h; cases ds with
    | nil => exact ⟨rfl, fun _ m => (nomatch m)⟩
    | cons _ _ => exact no_some h
  | cons e r ih =>
    intro ds ρ ρ' h
    cases ds with
    | nil => exact no_some h
    | cons d ds => exact bind_go h fun x hx h => bind_go h fun ρ₁ _ h => ⟨congrArg (· + 1) (ih h).1, mem_cns ⟨x.1, x.2, asName_inv hx⟩ (ih h).2⟩

theorem assignEach_names {ts : List Expr} (h : ∀ e ∈ ts, ∃ x xp, e = .Name x xp) : (assignEach ts env).findIdx? (·.1) = none ∧ (assignEach ts env).length = ts.length ∧ (assignEach ts env).map (·.2) = ts.map fun t => assign t env := by
  induction ts with
  | nil => exact ⟨rfl, rfl, rfl⟩
  | cons e r ih =>
    obtain ⟨x, xp, rfl⟩ := h e (.head _)
    have z := ih fun e m => h e (.tail _ m)
    refine ⟨?_, congrArg (· + 1) z.2.1, congrArg (assign (.Name x xp) env :: ·) z.2.2⟩
    show List.findIdx? _ ((false, assign (.Name x xp) env) :: assignEach r env) = none
    rw [List.findIdx?_cons, z.1]
    rfl

theorem setVals_sound {Q : Unit → Shared → Prop} {ts : List Expr} : ∀ {ds : List PyData} {vs : List Value} {oa : Str → Addr} {ρ ρ' : Loc} {s : Shared}, SS H0 A env pa B P s₀ noX oa ρ p s → Rds (pens pa) s.heap vs ds → setVals ρ ts ds = some ρ' →
    (∀ s', SS H0 A env pa B P s₀ noX oa ρ' p s' → Q () s') → wpAny (model prog w) A (assignInOrder (ts.map fun t => assign t env) vs) Q E s := by
  induction ts with
  | nil => intro ds vs oa ρ ρ' s S r h k; cases ds with
    | nil => cases h; rw [rds_nil r]; exact wpAny_pure (k s S)
    | cons _ _ => exact no_some h
  | cons e ts ih =>
    intro ds vs oa ρ ρ' s S r h k
    cases ds with
    | nil => exact no_some h
    | cons d ds =>
      obtain ⟨v, us, rfl, rv, ru⟩ := rds_cons r
      refine bind_go h fun x hx h => bind_go h fun ρ₁ h₁ h₂ => ?_
      obtain rfl := asName_inv hx
      have z := setVal_inv h₁
      exact wpAny_bind (wpAny_holding (PyProof.Rows.assign_Name (store_val S z.2.1 z.1 rv (.inr noX_not) fun s' S' hk => ih (z.2.2 ▸ S') (ru.imp fun as r => ⟨readsAll_but hk r.1, r.2⟩) h₂ k)))

theorem unpack_sound {ts : List Expr} {k : Nat} {tp : Pos} {v : Value} {ds : List PyData} {ρ' : Loc} {Q : Unit → Shared → Prop} (hh : A.handled = none) (S : SS H0 A env pa B P s₀ noX oa ρ p s) (r : Rd (pens pa) s.heap v (.tuple ds)) (hs : setVals ρ ts ds = some ρ')
    (kk : ∀ s', SS H0 A env pa B P s₀ noX oa ρ' p s' → Q () s') : wpAny (model prog w) A (assign (.Tuple ts k tp) env v) Q E s := by
  obtain ⟨a, items, rfl, hl, rl⟩ := r.tuple_inv
  obtain ⟨hlen, hnm⟩ := setVals_names hs
  obtain ⟨f1, f2, f3⟩ := assignEach_names (env := env) hnm
  rw [PyProof.Rows.assign_Tuple]
  refine wpAny_bind (wpAny_standAt ?_)
  unfold unpack
  rw [f1, f2, f3]
  have hsz : ts.length = items.size := hlen.trans rl.length.symm
  rw [hsz]
  refine wpAny_bind (wpAny_holding (PyProof.Rows.unpackItems_tuple hh hl fun h' he => ?_))
  have kp : Keeps s { s with heap := h' } := ⟨h', s.toks, rfl, fun b o e => he b o (Nat.ne_of_lt (Heap.lt_size e)) e⟩
  exact setVals_sound (S.keeps kp) (rl.exact kp) hs kk

theorem tupOf_inv {d : PyData} {i : List PyData} (h : tupOf d = some i) : d = .tuple i := by
  cases d with
  | tuple j => cases h; rfl
  | _ => exact no_some h
theorem bind_sound {tg : Expr} {v : Value} {d : PyData} {ρ' : Loc} {Q : Unit → Shared → Prop} (hh : A.handled = none) (S : SS H0 A env pa B P s₀ noX oa ρ p s) (r : Rd (pens pa) s.heap v d) (hs : bindP tg d ρ = some ρ')
    (kk : ∀ s', SS H0 A env pa B P s₀ noX oa ρ' p s' → Q () s') : wpAny (model prog w) A (assign tg env v) Q E s := by
  cases tg with
  | Name x xp => exact have z := setVal_inv hs; PyProof.Rows.assign_Name (store_val S z.2.1 z.1 r (.inr noX_not) fun s' S' _ => kk s' (z.2.2 ▸ S'))
  | Tuple ts k tp => exact bind_go hs fun ds hd hs => unpack_sound hh S (tupOf_inv hd ▸ r) hs kk
  | _ => exact no_some hs

theorem st_tuple {ts : List Expr} {k : Nat} {tp pos : Pos} {e : Expr} (hh : A.handled = none) (ev : EvF prog w A H0 XP C env pa n) (hne : asTup e = none) (S : SS H0 A env pa B P s₀ noX oa ρ p s)
    (h : XPost H0 A XP env pa B P s₀ Q E (tupX (evP n C false ρ) ρ p (.Tuple ts k tp) e)) : wpAny (model prog w) A (exec (.Assign [.Tuple ts k tp] e pos) env) Q E s := by
  refine Assign_Tuple (seqX S (ev S.st e · E) h fun v d p₁ s₁ S₁ r₁ x₁ h₁ => (ofOpt_x h₁).elim fun ρ' hs => bind_sound hh S₁ x₁ hs.1 fun s' S' => hs.2 .next s' oa S' trivial) ?_ ?_
  · cases e <;> rfl
  · cases e with
    | Tuple _ _ _ => cases hne
    | _ => rfl

/-! the parts of a tuple that is taken apart at once -/
inductive Parts (h0 h : Heap) (pa : Option Addr) : List Value → List LV → List Addr → Prop
  | nil : Parts h0 h pa [] [] []
  | val {v d vs ls as} : Rd (pens pa) h v d → flat d = true → Parts h0 h pa vs ls as → Parts h0 h pa (v :: vs) (.val d :: ls) as
  | own {a items xs vs ls as} : OwnL h a items → Rds (fun _ => True) h items.toList xs → ¬ Live h0 a → pa ≠ some a → Parts h0 h pa vs ls as → Parts h0 h pa (.ref a :: vs) (.own xs :: ls) (a :: as)
theorem Parts.dead {h0 h : Heap} {vs ls as} (x : Parts h0 h pa vs ls as) : ∀ a ∈ as, ¬ Live h0 a :=
  x.rec (motive := fun _ _ as _ => ∀ a ∈ as, ¬ Live h0 a) (fun _ m => by cases m) (fun _ _ _ ih => ih) fun _ _ d _ _ ih => mem_cns d ih
theorem Parts.turn {h0 h0' h h' : Heap} (kv : ∀ {v d}, Rd (pens pa) h v d → Rd (pens pa) h' v d) (kl : ∀ {a items}, pa ≠ some a → OwnL h a items → OwnL h' a items) (kr : ∀ {vs ds}, Rds (fun _ => True) h vs ds → Rds (fun _ => True) h' vs ds) (k0 : ∀ b, Live h0 b → Live h0' b) {vs ls as} (x : Parts h0' h pa vs ls as) : Parts h0 h' pa vs ls as :=
  x.rec (motive := fun vs ls as _ => Parts h0 h' pa vs ls as) .nil (fun a b _ ih => .val (kv a) b ih) fun a b c d _ ih => .own (kl d a) (kr b) (fun l => c (k0 _ l)) d ih
theorem Parts.older {h0 h0' h : Heap} (k : ∀ b, Live h0 b → Live h0' b) {vs ls as} (x : Parts h0' h pa vs ls as) : Parts h0 h pa vs ls as := x.turn id (fun _ => id) id k
theorem Parts.but {h0 h h' : Heap} (hk : ∀ b o, h.get? b = some o → o.cls ≠ .type "frame" → h'.get? b = some o) {vs ls as} (x : Parts h0 h pa vs ls as) : Parts h0 h' pa vs ls as :=
  x.turn (fun r => r.imp fun as r => ⟨reads_but hk r.1, r.2⟩) (fun _ z => z.imp fun m z => z.imp fun sl e => hk _ _ e (cls_ne rfl (by decide))) (fun r => r.imp fun as r => ⟨readsAll_but hk r.1, r.2⟩) fun _ => id
theorem Parts.keepS {h0 h h' : Heap} (hk : KeepS (pens pa) h h') {vs ls as} (x : Parts h0 h pa vs ls as) : Parts h0 h' pa vs ls as :=
  x.turn (fun r => r.keep hk fun _ q => q) (fun d a => a.keep hk d) (fun b => b.keep hk fun _ _ => trivial) fun _ => id
theorem Parts.append {h0 h : Heap} {vs' ls' as'} (y : Parts h0 h pa vs' ls' as') {vs ls as} (x : Parts h0 h pa vs ls as) : Parts h0 h pa (vs ++ vs') (ls ++ ls') (as ++ as') :=
  x.rec (motive := fun vs ls as _ => Parts h0 h pa (vs ++ vs') (ls ++ ls') (as ++ as')) y (fun a b _ ih => .val a b ih) fun a b c d _ ih => .own a b c d ih
theorem Parts.reverse {h0 h : Heap} {vs ls as} (x : Parts h0 h pa vs ls as) : Parts h0 h pa vs.reverse ls.reverse as.reverse :=
  x.rec (motive := fun vs ls as _ => Parts h0 h pa vs.reverse ls.reverse as.reverse) .nil (fun a b _ ih => by
    rw [List.reverse_cons, List.reverse_cons]
    have z := Parts.append (.val a b .nil) ih
    rwa [List.append_nil] at z) fun a b c d _ ih => by
    rw [List.reverse_cons, List.reverse_cons, List.reverse_cons]
    exact Parts.append (.own a b c d .nil) ih

theorem putAll_names {ts : List Expr} : ∀ {ls : List LV} {ρ ρ' : Loc}, putAll ρ ts ls = some ρ' → ts.length = ls.length := by
  induction ts with
  | nil => intro ls ρ ρ' h; cases ls with
    | nil => rfl
    | cons _ _ => exact no_some h
  | cons e r ih =>
    intro ls ρ ρ' h
    cases ls with
    | nil => exact no_some h
    | cons l ls => exact bind_go h fun x _ h => congrArg (· + 1) (ih (only_inv h).2)

noncomputable def nameOf (e : Expr) : Option Str := (asName e).bind fun x => some x.1

theorem putAll_sound {h0 : Heap} {Q : Unit → Shared → Prop} {ts : List Expr} : ∀ {ls : List LV} {vs : List Value} {as : List Addr} {oa : Str → Addr} {ρ ρ' : Loc} {s : Shared}, SS H0 A env pa B P s₀ X oa ρ p s → Parts h0 s.heap pa vs ls as → as.Nodup →
    (∀ a ∈ as, X a ∧ (P a ∨ ¬ Live B a) ∧ H0.get? a = none) → (∀ y ys, look ρ y = some (.own ys) → oa y ∉ as) → putAll ρ ts ls = some ρ' →
    (∀ s' oa', SS H0 A env pa B P s₀ X oa' ρ' p s' → Q () s') → wpAny (model prog w) A (assignInOrder ((ts.filterMap nameOf).map fun x => bindName env x) vs) Q E s := by
  induction ts with
  | nil =>
    intro ls vs as oa ρ ρ' s S pr nd hX ho h k
    cases ls with
    | nil => cases h; cases pr; exact wpAny_pure (k s oa S)
    | cons _ _ => exact no_some h
  | cons e ts ih =>
    intro ls vs as oa ρ ρ' s S pr nd hX ho h k
    cases ls with
    | nil => exact no_some h
    | cons l ls =>
    refine bind_go h fun x hx h => ?_
    have hl := only_inv h
    have hx' := isLocal_some hl.1
    rw [List.filterMap_cons_some (show nameOf e = some x.1 by unfold nameOf; rw [hx]; rfl)]
    cases pr with
    | val r hf pr =>
      exact wpAny_bind (wpAny_holding (wpAny_bindName (store_val S hl.1 (by unfold storable; rw [hf]; rfl) r (.inl hf) fun s' S' hk => ih S' (pr.but hk) nd hX (fun y ys hy => look_put_go hx' hy (fun _ e => by cases e) fun _ h => ho y ys h) hl.2 k)))
    | own ol r hd hp pr =>
      have nd := List.nodup_cons.mp nd
      have hXa := hX _ (.head _)
      exact wpAny_bind (wpAny_holding (wpAny_bindName (store_own S hl.1 ol r hXa.1 hp hXa.2 (fun y ys _ hy q => ho y ys hy (q ▸ .head _)) fun s' oa' S' e1 e2 hk => ih S' (pr.but hk) nd.2 (fun b m => hX b (.tail _ m))
        (fun y ys hy => look_put_go hx' hy (fun ey _ => by rw [ey, e2]; exact nd.1) fun ey h => by rw [e1 y ey]; exact fun m => ho y ys h (.tail _ m)) hl.2 k)))

theorem live_exact {h h' : Heap} (k : ∀ b o, h.get? b = some o → h'.get? b = some o) (b : Addr) : Live h b → Live h' b := fun l => l.imp fun o e => k b o e

noncomputable def PV (pa : Option Addr) (h0 h : Heap) (vs : List Value) (ls : List LV) : Prop := ∃ as, Parts h0 h pa vs ls as ∧ as.Nodup
theorem parts_sound {pos : Pos} (ev : EvF prog w A H0 XP C env pa n) (ev1 : EvF prog w A H0 XP C env pa (n + 1)) {es : List Expr} : ∀ {p : Option Int} {s : Shared} {Q : List Value → Shared → Prop}, St H0 A env oa pa ρ p s →
    GPost H0 XP (RN H0 pa) pa (PV pa s.heap) Q E s (partsP (evP (n + 1) C false ρ) es p) → wpAny (model prog w) A (spliced (backTo pos (starEach es env))) Q E s := by
  have hR := isR_RN H0 pa
  induction es with
  | nil => exact fun S h => Calls.spliced_nil (h.done hR S.pen (keeps_refl _) ⟨[], .nil, .nil⟩)
  | cons e r ih =>
    intro p s Q S h
    have h := when_ok h
    rw [backTo_cons h.1]
    have tail {v : Value} {l : LV} {p₁ : Option Int} {s₁ : Shared} (r₁ : RN H0 pa s s₁) (q₁ : PenAt H0 pa p₁ s₁.heap)
        (hc : ∀ {h' vs ls as}, KeepS (pens pa) s₁.heap h' → Parts s₁.heap h' pa vs ls as → as.Nodup → PV pa s.heap h' (v :: vs) (l :: ls))
        (h₁ : GPost H0 XP (RN H0 pa) pa (PV pa s.heap) Q E s₁ ((partsP (evP (n + 1) C false ρ) r p₁).bind fun ls p => .ok (l :: ls) p)) :
        wpAny (model prog w) A (spliced (backTo pos (starEach r env))) (fun vs s₂ => Q (v :: vs) s₂) E s₁ :=
      seq hR (fun Q => ih (S.step hR r₁ q₁)) h₁ fun vs ls p₂ s₂ r₂ q₂ x₂ h₂ => x₂.elim fun as x => h₂.done hR q₂ (keeps_refl s₂) (hc (hR.keepS r₂) x.1 x.2)
    have h2 := h.2
    cases hL : asLst e with
    | none =>
      rw [hL] at h2
      refine Calls.spliced_cons (seq hR (ev1 S e · E) h2 fun v d p₁ s₁ r₁ q₁ x₁ h₁ => (ofOpt_some h₁).elim fun l e => ?_)
      have hf := only_inv e.1
      cases hf.2
      exact tail r₁ q₁ (fun k pr nd => ⟨_, .val (x₁.keep k fun _ q => q) hf.1 (pr.older fun b => (hR.keepS r₁).live), nd⟩) e.2
    | some es =>
      rw [hL] at h2
      obtain rfl := asLst_inv hL
      have h3 : GPost H0 XP (RN H0 pa) pa (PV pa s.heap) Q E s ((evalsP (evP n C false ρ) es.1 p).bind fun ds p => (fitR .list ds p).bind fun d p => (Res.ofOpt p (partLV true d)).bind fun l p => (partsP (evP (n + 1) C false ρ) r p).bind fun ls p => .ok (l :: ls) p) := bind_assoc ▸ h2
      refine Calls.spliced_cons (List_ (seq hR (fun Q => evals_sound hR ev S) h3 fun vs ds p₁ s₁ r₁ q₁ x₁ h₁ => ?_))
      have h₁ : GPost H0 XP (RN H0 pa) pa (PV pa s.heap) Q E s₁ (Res.when (decide (ds.length ≤ sizeLine)) ((Res.ofOpt p₁ (partLV true (.list ds))).bind fun l p => (partsP (evP (n + 1) C false ρ) r p).bind fun ls p => .ok (l :: ls) p)) := by
        unfold fitR at h₁
        cases hd : decide (ds.length ≤ sizeLine) <;> rw [hd] at h₁ <;> exact h₁
      have h₁ := when_ok h₁
      refine (ofOpt_some h₁.2).elim fun l e => ?_
      have hf := only_inv (show only (flats ds) (some (LV.own ds)) = some l from e.1)
      cases hf.2
      have kp : Keeps s₁ { s₁ with heap := s₁.heap.push { cls := .type "list", data := .seq vs.toArray } } := keeps_push ..
      refine wpAny_newObj_type (tail (l := .own ds) (hR.trans r₁ (hR.keeps kp)) (q₁.exact kp) (fun k pr nd => ?_) (e.2.from hR (hR.keeps kp))) (Nat.le_trans (Nat.le_of_eq x₁.length) (of_decide_eq_true h₁.1))
      have hp : pa ≠ some s₁.heap.objs.size := fun q => Nat.lt_irrefl _ (q₁.old _ q)
      have ol : OwnL (s₁.heap.push { cls := .type "list", data := .seq vs.toArray }) s₁.heap.objs.size vs.toArray := ⟨0, #[], Heap.get?_push_size _ rfl⟩
      exact ⟨_, .own (ol.keep k hp) (((rds_flat x₁ hf.1).exact kp).keep k fun _ _ => trivial) (fun l => size_not_live s₁ ((hR.keepS r₁).live l)) hp (pr.older fun b l => live_exact (keeps_exact kp) b ((hR.keepS r₁).live l)), List.nodup_cons.mpr ⟨fun m => pr.dead _ m ⟨_, Heap.get?_push_size _ rfl⟩, nd⟩⟩
end
end Mine

set_option linter.all false
namespace Mine
open PySem PySem.W PyProof.Rows

section
variable {prog : Program} {w : World} {A : Around} {H0 : Heap} {mg mb : Str → Option Value} {XP : Heap → Heap → Value → Exc → Prop}
variable {C : CallP} {env : Env} {pa : Option Addr} {B : Heap} {P : Addr → Prop} {s₀ : Shared} {X : Addr → Prop} {oa : Str → Addr} {ρ : Loc} {p : Option Int} {s : Shared} {E : Value → Shared → Prop} {n : Nat} {Q : Flow → Shared → Prop}

theorem fm_congr {α β : Type} {f g : α → Option β} {l : List α} (h : ∀ e ∈ l, f e = g e) : l.filterMap f = l.filterMap g := by
  induction l with
  | nil => rfl
  | cons e r ih => rw [List.filterMap_cons, List.filterMap_cons, h e (.head _), ih fun e m => h e (.tail _ m)]

theorem namesOn_eq {line : Nat} {ts : List Expr} : (namesOn line ts).length = ts.length → (∀ e ∈ ts, ∃ x xp, e = .Name x xp ∧ xp.line = line) ∧ namesOn line ts = ts.filterMap nameOf := by
  induction ts with
  | nil => exact fun _ => ⟨fun _ m => (nomatch m), rfl⟩
  | cons e r ih =>
    intro h
    have le : (namesOn line r).length ≤ r.length := List.length_filterMap_le _ _
    have no (e0 : namesOn line (e :: r) = namesOn line r) : False := by
      rw [e0, List.length_cons] at h
      exact Nat.not_succ_le_self _ (h ▸ le)
    cases e with
    | Name x xp =>
      cases hl : xp.line == line with
      | false => exact (no (List.filterMap_cons_none (by dsimp only; rw [hl]; rfl))).elim
      | true =>
        have e1 : namesOn line (.Name x xp :: r) = x :: namesOn line r := List.filterMap_cons_some (by dsimp only; rw [hl]; rfl)
        rw [e1] at h ⊢
        have z := ih (Nat.succ.inj h)
        exact ⟨mem_cns ⟨x, xp, rfl, eq_of_beq hl⟩ z.1, congrArg (x :: ·) z.2⟩
    | _ => exact (no rfl).elim
/-- what swapOk says -/
structure SwapOK (ts vs : List Expr) : Prop where
  size : (ts.length == 2 || ts.length == 3) = true
  len : (vs.length == ts.length) = true
  star : vs.all notStar = true
  nms : ∀ e ∈ ts, ∃ x xp, e = .Name x xp ∧ xp.line = ((ts.head?.map (·.pos.line)).getD 0)
  eqn : namesOn ((ts.head?.map (·.pos.line)).getD 0) ts = ts.filterMap nameOf
  num : ((ts.filterMap nameOf).length == ts.length) = true
  dups : ((ts.filterMap nameOf).eraseDups.length == (ts.filterMap nameOf).length) = true
  fold : vs.all (foldedForSure 8) = false
  alone : vs.all (constantsAlone 8) = false
theorem swapOk_inv {ts vs : List Expr} (h : swapOk ts vs = true) : SwapOK ts vs := by
  have a := Bool.and_eq_true_iff.mp h
  have b := Bool.and_eq_true_iff.mp a.1
  have c := Bool.and_eq_true_iff.mp b.1
  have d := Bool.and_eq_true_iff.mp c.1
  have e := Bool.and_eq_true_iff.mp d.1
  have f := Bool.and_eq_true_iff.mp e.1
  have g := Bool.and_eq_true_iff.mp f.1
  have z := namesOn_eq (eq_of_beq e.2)
  exact ⟨g.1, g.2, f.2, z.1, z.2, z.2 ▸ e.2, z.2 ▸ d.2, Bool.not_eq_true' _ ▸ b.2, Bool.not_eq_true' _ ▸ a.2⟩

theorem star_any {vs : List Expr} (h : vs.all notStar = true) : (vs.any fun e => match e with | .Starred .. => true | _ => false) = false := by
  rw [List.any_eq_false]
  intro e m
  have z := List.all_eq_true.mp h e m
  cases e with
  | Starred _ _ => cases z
  | _ => exact Bool.false_ne_true
theorem swapped_eq {ts vs : List Expr} {k k' : Nat} {tp vp : Pos} (S : SS H0 A env pa B P s₀ X oa ρ p s) (h : SwapOK ts vs) (hl : allLocal ρ ts = true) :
    swappedStores [.Tuple ts k tp] (.Tuple vs k' vp) env = pure (some (ts.filterMap nameOf)) := by
  have hb : env.blockKind = .function := by unfold Env.blockKind; rw [S.kind]; rfl
  have hnm : (ts.filterMap fun e => match e with
      | .Name id pos => if (env.kindOf id == some .local && pos.line == (ts.head?.map (·.pos.line)).getD 0) = true then some id else none
      | _ => none) = ts.filterMap nameOf := by
    rw [← h.eqn]
    refine fm_congr fun e m => ?_
    obtain ⟨x, xp, rfl, hx⟩ := h.nms e m
    have hk : env.kindOf x = some .local := local_kind S (List.all_eq_true.mp hl _ m)
    dsimp only
    rw [hk, beq_self_eq_true, Bool.true_and]
  have c1 : (!(ts.length == 2 || ts.length == 3) || vs.length != ts.length || env.blockKind != .function) = false := by
    rw [hb, bne, h.size, h.len]; rfl
  have c3 : ((ts.filterMap nameOf).length != ts.length || (ts.filterMap nameOf).eraseDups.length != (ts.filterMap nameOf).length) = false := by
    rw [bne, bne, h.dups, h.num]; rfl
  have key : ∀ N : List Str, N = ts.filterMap nameOf → (if (!(ts.length == 2 || ts.length == 3) || vs.length != ts.length || env.blockKind != .function) = true then (pure none : Sem (Option (List Str))) else
      if (vs.any fun e => match e with | .Starred .. => true | _ => false) = true then pure none else
      if (N.length != ts.length || N.eraseDups.length != N.length) = true then pure none else
      if vs.all (foldedForSure 8) = true then pure none else
      if vs.all (constantsAlone 8) = true then unsupported "assign.tuple-of-constant-expressions:order-of-the-stores" else pure (some N)) = pure (some (ts.filterMap nameOf)) := by
    rintro N rfl
    rw [if_neg (by rw [c1]; exact Bool.false_ne_true), if_neg (by rw [star_any h.star]; exact Bool.false_ne_true), if_neg (by rw [c3]; exact Bool.false_ne_true), if_neg (by rw [h.fold]; exact Bool.false_ne_true), if_neg (by rw [h.alone]; exact Bool.false_ne_true)]
  exact key _ hnm

theorem swap_size {ts vs : List Expr} (h : SwapOK ts vs) : 2 ≤ vs.length ∧ vs.length ≤ 3 := by
  rw [eq_of_beq h.len]
  rcases Bool.or_eq_true_iff.mp h.size with q | q <;> rw [eq_of_beq q] <;> decide

theorem nameOf_len {ts : List Expr} (h : ∀ e ∈ ts, ∃ x xp, e = .Name x xp) : (ts.filterMap nameOf).length = ts.length := by
  induction ts with
  | nil => rfl
  | cons e r ih =>
    obtain ⟨x, xp, rfl⟩ := h e (.head _)
    exact congrArg (· + 1) (ih fun e m => h e (.tail _ m))

theorem Parts.len {h0 h : Heap} {vs ls as} (x : Parts h0 h pa vs ls as) : vs.length = ls.length :=
  x.rec (motive := fun vs ls _ _ => vs.length = ls.length) rfl (fun _ _ _ ih => congrArg (· + 1) ih) fun _ _ _ _ _ ih => congrArg (· + 1) ih

theorem parts_zero {e : Expr} {r : List Expr} : partsP (evP 0 C false ρ) (e :: r) p = .stuck := by
  show Res.when (notStar e) .stuck = _
  cases notStar e <;> rfl
theorem st_swap {ts vs : List Expr} {k k' : Nat} {tp vp pos : Pos} (hh : A.handled = none) (evAll : ∀ n, EvF prog w A H0 XP C env pa n) (S : SS H0 A env pa B P s₀ noX oa ρ p s)
    (h : XPost H0 A XP env pa B P s₀ Q E (swapX (evP n C false ρ) ρ p ts vs)) : wpAny (model prog w) A (exec (.Assign [.Tuple ts k tp] (.Tuple vs k' vp) pos) env) Q E s := by
  have h := when_x h
  have hc := Bool.and_eq_true_iff.mp h.1
  have hs := swapOk_inv hc.1
  have h2 := h.2
  have hsz := swap_size hs
  cases n with
  | zero => cases vs with
    | nil => cases hsz.1
    | cons e r => rw [parts_zero] at h2; exact h2.elim
  | succ n =>
    refine Assign_Tuple_swapped (Tuple_ (seqX S (fun Q => parts_sound (evAll n) (evAll (n + 1)) S.st) h2 fun vals ls p₁ s₁ S₁ r₁ x₁ h₁ => Classical.byContradiction fun hno => ?_)) (by rfl) (swapped_eq S hs hc.2)
    obtain ⟨as, pr, nd⟩ := x₁
    obtain ⟨ρ', hp, h₁⟩ := ofOpt_x h₁
    have hpl := putAll_names hp
    rw [List.length_reverse, List.length_reverse] at hpl
    have hvl : vals.length = ts.length := pr.len.trans hpl.symm
    have hvn : vals.toArray.size ≤ 3 := Nat.le_trans (Nat.le_of_eq (hvl.trans (eq_of_beq hs.len).symm)) hsz.2
    have kp : Keeps s₁ { s₁ with heap := s₁.heap.push { cls := .type "tuple", data := .seq vals.toArray } } := keeps_push ..
    refine hno (wpAny_newObj_type ?_ (Nat.le_trans hvn (by decide)))
    rw [show (ts.filterMap nameOf).length = vals.toArray.size from (nameOf_len fun e m => (hs.nms e m).imp fun x z => z.imp fun xp z => z.1).trans hvl.symm]
    refine PyProof.Rows.unpackItems_tuple (items := vals.toArray) hh (isTuple_push _) fun h' he => ?_
    have kq : Keeps s₁ { s₁ with heap := h' } := ⟨h', s₁.toks, rfl, fun b o e => he b o (Nat.ne_of_lt (Heap.lt_size (keeps_exact kp b o e))) (keeps_exact kp b o e)⟩
    have S₃ := ((S.fresh (Y := fun b => b ∈ as) fun b m => pr.dead b m).step r₁ S₁.pen).keeps kq
    have pr' := (pr.but fun b o e _ => keeps_exact kq b o e).reverse
    have dead : ∀ a ∈ as.reverse, ¬ Live s.heap a := fun a m => pr.dead a (List.mem_reverse.mp m)
    rw [show (ts.filterMap nameOf).reverse = ts.reverse.filterMap nameOf by rw [List.filterMap_reverse]]
    exact putAll_sound S₃ pr' (List.pairwise_reverse.mpr (nd.imp fun h => Ne.symm h)) (fun a m => ⟨.inr (List.mem_reverse.mp m), .inr fun l => dead a m (S.keep.live l), not_h0 S.stays (dead a m)⟩)
      (fun y ys hy m => (S.own y ys hy).2.elim fun items z => z.elim fun nn z => z.elim fun sl ho => dead _ m ⟨_, ho⟩) hp fun s' oa' S' => h₁ .next s' oa' (S'.less fun b q _ => q.elim) trivial
end
end Mine

set_option linter.all false
namespace Mine
open PySem PySem.W PyProof.Rows

section
variable {prog : Program} {w : World} {A : Around} {H0 : Heap} {mg mb : Str → Option Value} {XP : Heap → Heap → Value → Exc → Prop}
variable {C : CallP} {env : Env} {pa : Option Addr} {B : Heap} {P : Addr → Prop} {s₀ : Shared} {X : Addr → Prop} {oa : Str → Addr} {ρ : Loc} {p : Option Int} {s : Shared} {E : Value → Shared → Prop} {n : Nat} {Q : Flow → Shared → Prop}

theorem own_append {l : Addr} {items : Array Value} {x : Value} {Q : Value → Shared → Prop} (hl : OwnL s.heap l items)
    (hQ : ∀ h', OwnL h' l (items.push x) → Heap.SameBut l s.heap h' → Q .none { s with heap := h' }) (hsz : items.size ≤ sizeLine) :
    wpAny (model prog w) A (call (.builtin "list.append") [.ref l, x]) Q E s := by
  obtain ⟨n, sl, ho⟩ := hl
  refine wpAny_call_entry slot_list_append ⟨_, ho, rfl⟩ entry_list_append ?_ (args_list_append _ _)
  show wpAny _ _ (updateSeq l (·.push x) >>= fun _ => ret .none) _ _ s
  exact wpAny_bind (wpAny_updateSeq ho rfl (hz := hsz) (wpAny_pure ⟨.none, rfl, hQ _ ⟨_, sl, Heap.get?_update_self _ ho rfl⟩ (Heap.SameBut.update ..)⟩))

/-- what the name of a frame's own list says -/
structure OwnAt (env : Env) (pa : Option Addr) (oa : Str → Addr) (x : Str) (xs : List PyData) (h : Heap) (items : Array Value) : Prop where
  kind : env.kindOf x = some .local
  ns : ∃ m, h.Ns env.locals m ∧ m x = some (.ref (oa x))
  pen : pa ≠ some (oa x)
  own : OwnL h (oa x) items
  rds : Rds (fun _ => True) h items.toList xs
theorem own_look {x : Str} {xs : List PyData} (S : SS H0 A env pa B P s₀ X oa ρ p s) (hx : look ρ x = some (.own xs)) : ∃ items, OwnAt env pa oa x xs s.heap items := by
  obtain ⟨m, hn, hm⟩ := S.names
  obtain ⟨a, b, ⟨items, ⟨o, ho, hc, k, hd⟩, r⟩, e⟩ := hm _ _ hx
  obtain ⟨_, items', k', sl, ho'⟩ := S.own x xs hx
  have q := ho
  rw [ho'] at q; cases q
  cases hd
  exact ⟨items, a, ⟨m, hn, b⟩, e, ⟨k, sl, ho⟩, r⟩
theorem OwnAt.load {M : Model} {x : Str} {xs : List PyData} {items : Array Value} {xp : Pos} {Q : Value → Shared → Prop} (o : OwnAt env pa oa x xs s.heap items) (S : SS H0 A env pa B P s₀ X oa ρ p s) (hx : look ρ x = some (.own xs)) (h : Q (.ref (oa x)) s) : wpAny M A (eval (.Name x xp) env) Q E s :=
  o.ns.elim fun m z => wpAny_Name (wpAny_loadName_local S.kind o.kind z.1 z.2 h) (S.nodebug _ _ hx)
theorem own_keepS {h h' : Heap} {a : Addr} {items items' : Array Value} (ol : OwnL h a items) (hs : Heap.SameBut a h h') (ol' : OwnL h' a items') : KeepS (fun b => b = a) h h' :=
  ol.elim fun n1 z => z.elim fun sl1 ho1 => ol'.elim fun n2 z => z.elim fun sl2 ho2 => keepS_one ho1 (fun b o hb e => (hs.2 b hb).trans e) (type_ne rfl (by decide)) ho2 rfl (nonRec_seq rfl)
theorem ownOf_inv {o : Option LV} {xs : List PyData} (h : ownOf o = some xs) : o = some (.own xs) := by
  cases o with
  | none => exact no_some h
  | some l => cases l with
    | own ys => cases h; rfl
    | _ => exact no_some h

/-- a frame's own list takes another content -/
theorem SS.own_to {x : Str} {xs ys : List PyData} {h' : Heap} {t : Nat} {items items' : Array Value} (S : SS H0 A env pa B P s₀ X oa ρ p s) (hx : look ρ x = some (.own xs)) (o : OwnAt env pa oa x xs s.heap items) (hs : Heap.SameBut (oa x) s.heap h') (ol' : OwnL h' (oa x) items')
    (r : Rds (fun _ => True) h' items'.toList ys) : SS H0 A env pa B P s₀ X oa (put ρ x (.own ys)) p { s with heap := h', toks := t } := by
  have z := (S.own x xs hx).1
  refine S.touch o.own.isList hs ol'.isList z.1 (.inl (.inr ⟨x, xs, hx, rfl⟩)) z.2 (fun y lv hy => look_put_go ⟨_, hx⟩ hy (fun e e' => .inr ⟨ys, xs, e ▸ hx, e'.symm, e ▸ rfl, r, ol'⟩) fun e hy => .inl ⟨hy, fun zs hz q => e (S.inj y zs x xs (hz ▸ hy) hx q)⟩) ?_
  have q := S.pen
  cases pa with
  | none => cases p <;> exact q
  | some a => cases p with
    | none => exact q
    | some k => exact ⟨q.1.imp fun t l => l.imp fun ob z => ⟨(hs.2 a fun e => o.pen (by rw [e])).trans z.1, z.2⟩, q.2⟩

theorem st_append {x m : Str} {xp apos cp pos : Pos} {e : Expr} (ev : EvF prog w A H0 XP C env pa n) (S : SS H0 A env pa B P s₀ noX oa ρ p s)
    (h : XPost H0 A XP env pa B P s₀ Q E (appendX (evP n C false ρ) ρ p x m apos e cp)) : wpAny (model prog w) A (exec (.Expr (.Call (.Attribute (.Name x xp) m apos) [e] [] cp) pos) env) Q E s := by
  refine Classical.byContradiction fun hno => ?_
  have h := when_x h
  have hc := Bool.and_eq_true_iff.mp h.1
  have hc' := Bool.and_eq_true_iff.mp hc.1
  obtain rfl := eq_of_beq hc'.1
  obtain ⟨xs, hx, h⟩ := ofOpt_x h.2
  have hx := ownOf_inv hx
  obtain ⟨items, o⟩ := own_look S hx
  have hint : interactive env = false := by unfold interactive; rw [S.kind]; rfl
  obtain ⟨nn, sl, ho⟩ := o.own
  refine hno (wpAny_Expr (Call_method1 (base_eq rfl) (starEach_cons hc.2) hc'.2 (o.load S hx ⟨"list", "list.append", F.plainAttrs_list, slot_list_append, type_list_append, ⟨_, ho, rfl⟩, fun a ha => by cases ha; exact ⟨_, ho, rfl⟩,
    Calls.callWith_builtin rfl (Calls.evalArgs_plain (Calls.spliced_cons (seqX S (ev S.st e · E) h fun v d p₁ s₁ S₁ r₁ x₁ h₁ => Calls.spliced_nil ?_)))⟩)) hint (by rfl))
  have h₁ := when_x h₁
  have hf := Bool.and_eq_true_iff.mp h₁.1
  refine (own_look S₁ hx).elim fun items1 o1 => own_append o1.own (fun h' ol' hs => h₁.2 .next _ oa (S₁.own_to hx o1 hs ol' ?_) trivial) (Nat.le_trans (Nat.le_of_eq o1.rds.length) (Nat.le_trans (of_decide_eq_true hf.2) (by decide)))
  have kS := own_keepS o1.own hs ol'
  rw [Array.toList_push]
  exact Rds.append (o1.rds.keep kS fun _ _ => trivial) (.cons ((x₁.flat (P' := fun _ => True) hf.1).keep kS fun _ _ => trivial) .nil)

theorem st_pen {x : Str} {xp cp sp pos : Pos} {ck : Nat} {e : Expr} (ev : EvF prog w A H0 XP C env pa n) (S : SS H0 A env pa B P s₀ noX oa ρ p s)
    (h : XPost H0 A XP env pa B P s₀ Q E (penX (evP n C false ρ) ρ p x e)) : wpAny (model prog w) A (exec (.Assign [.Subscript (.Name x xp) (.Constant (.int 0) ck cp) sp] e pos) env) Q E s := by
  have h := when_x h
  have hx := isPenL_inv h.1
  rw [exec_Assign_Subscript _ _ _ _ _ (by cases e <;> rfl)]
  refine wpAny_bind (wpAny_standAt (wpAny_bind (seqX S (ev S.st e · E) h.2 fun v d p₁ s₁ S₁ r₁ x₁ h₁ => Classical.byContradiction fun hno => ?_)))
  obtain ⟨i, hi, h₁⟩ := ofOpt_x h₁
  obtain ⟨t, rfl⟩ := Rd.int_inv (intOf_inv hi ▸ x₁)
  cases p₁ with
  | none => exact h₁.elim
  | some k =>
    obtain ⟨m, hn, hm⟩ := S₁.names
    obtain ⟨hk, a, rfl, hv⟩ := hm _ _ hx
    obtain ⟨⟨t1, l1⟩, z⟩ := S₁.pen
    refine hno ?_
    rw [arm_assign_Subscript]
    refine wpAny_bind (wpAny_bind (wpAny_holding (wpAny_Name (wpAny_loadName_local S₁.kind hk hn hv ?_) (S₁.nodebug _ _ hx))))
    refine wpAny_bind (wpAny_holding (wpAny_Constant_int ?_))
    refine wpAny_bind (wpAny_standAt (wpAny_bind (wpAny_holding ?_)))
    refine wpAny_setItem_list (s := { s₁ with toks := s₁.toks + 1 }) l1 (by decide) (by decide) (Int.ofNat_lt.mpr Nat.zero_lt_one) fun h' hl' hs => wpAny_release (wpAny_pure (h₁ .next _ oa (S₁.touch (t := s₁.toks + 1) (p' := some i) (ρ' := ρ) l1 hs hl' (S₁.penP a rfl) (.inl (.inl rfl)) z (fun y lv hy => .inl ⟨hy, fun ys e q => ?_⟩) ⟨⟨t, hl'⟩, z⟩) trivial))
    subst e
    exact (hm _ _ hy).2.2.2 (by rw [q])
end
end Mine

set_option linter.all false
namespace Mine
open PySem PySem.W PyProof.Rows

section
variable {prog : Program} {w : World} {A : Around} {H0 : Heap} {mg mb : Str → Option Value} {XP : Heap → Heap → Value → Exc → Prop}
variable {C : CallP} {env : Env} {pa : Option Addr} {B : Heap} {P : Addr → Prop} {s₀ : Shared} {X : Addr → Prop} {oa : Str → Addr} {ρ : Loc} {p : Option Int} {s : Shared} {E : Value → Shared → Prop} {n : Nat} {Q : Flow → Shared → Prop}

theorem slice_bounds {n a b : Nat} (hab : a ≤ b) (hb : b ≤ n) : sliceBounds (some (a : Int)) (some (b : Int)) none n = ((a : Int), (b : Int), 1) := by
  have cl : ∀ k : Nat, k ≤ n → max 0 (min (if (k : Int) < 0 then (k : Int) + n else k) (n : Int)) = k := fun k hk => by
    rw [if_neg (Int.not_lt.mpr (Int.natCast_nonneg k)), Int.min_eq_left (Int.ofNat_le.mpr hk), Int.max_eq_right (Int.natCast_nonneg k)]
  show ((max 0 (min (if (a : Int) < 0 then (a : Int) + n else a) (n : Int)) : Int), (max 0 (min (if (b : Int) < 0 then (b : Int) + n else b) (n : Int)) : Int), (1 : Int)) = _
  rw [cl a (Nat.le_trans hab hb), cl b hb]
theorem wpAny_pos {α : Type} {c : Prop} [Decidable c] {x y : Sem α} {Q : α → Shared → Prop} {A : Around} (h : c) (k : wpAny (model prog w) A x Q E s) : wpAny (model prog w) A (if c then x else y) Q E s := by rw [if_pos h]; exact k
theorem wpAny_neg {α : Type} {c : Prop} [Decidable c] {x y : Sem α} {Q : α → Shared → Prop} {A : Around} (h : ¬ c) (k : wpAny (model prog w) A y Q E s) : wpAny (model prog w) A (if c then x else y) Q E s := by rw [if_neg h]; exact k
theorem wpAny_sel {α : Type} {c : Bool} {m1 m2 : Sem α} {Q : α → Shared → Prop} {R : Prop} {A : Around} (h1 : R → wpAny (model prog w) A m1 Q E s) (h2 : R → wpAny (model prog w) A m2 Q E s) (r : R) : wpAny (model prog w) A (if c = true then m1 else m2) Q E s := by
  cases c
  · exact h2 r
  · exact h1 r
theorem setItem_slice {l sl L2 : Addr} {items new : Array Value} {a b : Nat} {ta tb : Tok} {Q : Unit → Shared → Prop} (hl : OwnL s.heap l items) (hs : s.heap.IsSliceOf sl (.int (a : Int) ta) (.int (b : Int) tb) .none) (hv : s.heap.IsList L2 new)
    (hab : a ≤ b) (hb : b ≤ items.size) (hsz : items.size ≤ 100000) (hsn : new.size ≤ 1000)
    (hQ : ∀ h', OwnL h' l (items.extract 0 a ++ new ++ items.extract b items.size) → Heap.SameBut l s.heap h' → Q () { s with heap := h' }) : wpAny (model prog w) A (setItem (.ref l) (.ref sl) (.ref L2)) Q E s := by
  obtain ⟨n0, slots, ho⟩ := hl
  obtain ⟨os, hos, hcs, hds⟩ := id hs
  obtain ⟨ov, hov, hcv, nv, hdv⟩ := id hv
  have hTl : s.TypeIs (.ref l) "list" := ⟨_, ho, rfl⟩
  have hTs : s.TypeIs (.ref sl) "slice" := ⟨os, hos, hcs⟩
  have hTv : s.TypeIs (.ref L2) "list" := ⟨ov, hov, hcv⟩
  unfold setItem
  try with_reducible refine wpAny_holding ?_
  first | refine wpAny_bind (wpAny_pure ?_) | skip
  refine wpAny_bind (wpAny_sequenceKey hTl (by decide) ?_)
  refine wpAny_bind (wpAny_callSpecial?_slot (name := Str.ofString "__setitem__") hTl slot_list_setitem
    (wpAny_call_entry slot_list_setitem hTl entry_list_setitem ?_ (args_list_setitem _ _ _)))
  show wpAny _ _ (Builtin.List.listSubscript? (.ref sl) >>= _) _ _ s
  refine wpAny_bind ?_
  unfold Builtin.List.listSubscript?
  refine wpAny_bind (wpAny_specialOf hTs slice_no_index ?_)
  refine wpAny_pos rfl (wpAny_pure ?_)
  show wpAny _ _ (typeOf (.ref sl) >>= _) _ _ s
  refine wpAny_bind (wpAny_typeOf hTs ?_)
  rw [if_neg (by decide)]
  rw [listSliceParts_eq]
  refine wpAny_bind (wpAny_bind (wpAny_field hos hds (x := .none) rfl (wpAny_bind (wpAny_listPart .none ?_))))
  rw [if_neg (by exact Bool.false_ne_true)]
  refine wpAny_bind (wpAny_field hos hds (x := .int (a : Int) ta) rfl (wpAny_bind (wpAny_listPart (.int _ _) ?_)))
  refine wpAny_bind (wpAny_field hos hds (x := .int (b : Int) tb) rfl (wpAny_bind (wpAny_listPart (.int _ _) (wpAny_pure ?_))))
  have one : ∀ {Q : Array Value → Shared → Prop} {E : Value → Shared → Prop}, Q new s → wpAny (model prog w) A.in1 (Builtin.List.listItems (.ref L2)) Q E s := by
    intro Q E hq
    unfold Builtin.List.listItems
    exact wpAny_bind (wpAny_seqItems hov hdv (wpAny_pure hq))
  have all : ∀ {Q : Array Value → Shared → Prop} {E : Value → Shared → Prop}, Q new s → wpAny (model prog w) A.in1 (Builtin.List.listAllItems (.ref L2) "must assign iterable to extended slice") Q E s := by
    intro Q E hq
    unfold Builtin.List.listAllItems
    refine wpAny_bind (wpAny_typeOf hTv ?_)
    rw [if_pos (by decide)]
    exact one hq
  have hbd : sliceBounds (some (a : Int)) (some (b : Int)) none items.size = ((a : Int), (b : Int), 1) := slice_bounds hab hb
  have htl : Builtin.List.listTooLong (items.size + new.size) = false := decide_eq_false (Nat.not_lt.mpr (Nat.le_trans (Nat.add_le_add hsz hsn) (by decide)))
  have em : (max (a : Int) (b : Int)).toNat = b := by rw [Int.max_eq_right (Int.ofNat_le.mpr hab)]; rfl
  have hz : items.size ≤ sizeLine := Nat.le_trans hsz (by decide)
  have hz' : (items.extract 0 a ++ new ++ items.extract b items.size).size ≤ sizeLine := by
    rw [Array.size_append, Array.size_append, Array.size_extract, Array.size_extract]
    exact Nat.le_trans (Nat.add_le_add (Nat.add_le_add (Nat.le_trans (Nat.sub_le _ _) (Nat.le_trans (Nat.min_le_right _ _) hsz)) hsn) (Nat.le_trans (Nat.sub_le _ _) (Nat.le_trans (Nat.min_le_right _ _) hsz))) (by decide)
  dsimp only
  refine wpAny_sel (fun q => wpAny_bind (one q)) (fun q => wpAny_bind (all q)) ?_
  refine wpAny_bind (wpAny_bind (wpAny_seqItems ho rfl (wpAny_pure ?_)))
  refine wpAny_bind (wpAny_of_eq (sliceIndices_raw (some (a : Int)) (some (b : Int)) none items.size (by simp)) ?_)
  rw [hbd]
  refine wpAny_bind (wpAny_rule ?_)
  rw [htl, em]
  exact wpAny_bind (wpAny_updateSeq ho rfl (wpAny_bind (wpAny_letGo (wpAny_pure ⟨_, rfl, wpAny_pure (hQ _ ⟨_, slots, Heap.get?_update_self _ ho rfl⟩ (Heap.SameBut.update ..))⟩))) (hz := hz) (_hz' := Nat.le_succ_of_le hz'))

theorem extract_take {items : Array Value} {a b : Nat} {new : Array Value} : (items.extract 0 a ++ new ++ items.extract b items.size).toList = items.toList.take a ++ new.toList ++ items.toList.drop b := by
  simp
  exact List.take_of_length_le (by simp)

theorem rds_take {W : Addr → Prop} {h : Heap} (k : Nat) : ∀ {vs : List Value} {ds : List PyData}, Rds W h vs ds → Rds W h (vs.take k) (ds.take k) ∧ Rds W h (vs.drop k) (ds.drop k) := by
  induction k with
  | zero => exact fun r => ⟨.nil, r⟩
  | succ k ih =>
    intro vs ds r
    cases ds with
    | nil => rw [rds_nil r]; exact ⟨.nil, .nil⟩
    | cons d ds =>
      obtain ⟨v, us, rfl, rv, ru⟩ := rds_cons r
      exact ⟨.cons rv (ih ru).1, (ih ru).2⟩

theorem st_slice {x : Str} {xp sp lp vp pos : Pos} {lo hi e : Expr} (ev : EvF prog w A H0 XP C env pa n) (S : SS H0 A env pa B P s₀ noX oa ρ p s)
    (h : XPost H0 A XP env pa B P s₀ Q E (sliceX (evP n C false ρ) ρ p x lo hi e vp)) : wpAny (model prog w) A (exec (.Assign [.Subscript (.Name x xp) (.Slice (some lo) (some hi) none sp) lp] (.List [e] vp) pos) env) Q E s := by
  refine (ofOpt_x h).elim fun xs h => ?_
  have hx := ownOf_inv h.1
  rw [exec_Assign_Subscript _ _ _ _ _ (by rfl)]
  refine wpAny_bind (wpAny_standAt (wpAny_bind (seqX S (ev S.st _ · E) h.2 fun v d p₁ s₁ S₁ r₁ x₁ h₁ => (own_look S₁ hx).elim fun items o => ?_)))
  rw [arm_assign_Subscript]
  refine wpAny_bind (wpAny_bind (wpAny_holding (o.load S₁ hx ?_)))
  refine wpAny_bind (wpAny_holding (wpAny_Slice ?_))
  rw [evalPart_some]
  refine seqX S₁ (ev S₁.st lo · E) h₁ fun va da p₂ s₂ S₂ r₂ x₂ h₂ => ?_
  rw [evalPart_some]
  refine seqX S₂ (ev S₂.st hi · E) h₂ fun vb db p₃ s₃ S₃ r₃ x₃ h₃ => ?_
  rw [evalPart_none]
  refine wpAny_pure (Classical.byContradiction fun hno => ?_)
  obtain ⟨zs, hz, h₄⟩ := ofOpt_x h₃
  refine bind_go hz fun ys hy hz => bind_go hz fun a ha hz => bind_go hz fun b hb hz => ?_
  have hf := only_inv hz
  have hq := only_inv hf.2
  cases hq.2
  have c1 := Bool.and_eq_true_iff.mp hq.1
  have c2 := Bool.and_eq_true_iff.mp c1.1
  have c3 := Bool.and_eq_true_iff.mp c2.1
  have c4 := Bool.and_eq_true_iff.mp c3.1
  have a0 := of_decide_eq_true c4.1
  have ab := of_decide_eq_true c4.2
  obtain ⟨ta, rfl⟩ := Rd.int_inv (intOf_inv ha ▸ x₂)
  obtain ⟨tb, rfl⟩ := Rd.int_inv (intOf_inv hb ▸ x₃)
  obtain ⟨L2, new, rfl, hl2, rl2, _⟩ := Rd.list_inv (lstOf_inv hy ▸ (x₁.keep ((isR_RN H0 pa).keepS r₂) fun _ q => q).keep ((isR_RN H0 pa).keepS r₃) fun _ q => q)
  have kp : Keeps s₃ { s₃ with heap := s₃.heap.push { cls := .type "slice", data := .fields #[.int a ta, .int b tb, .none] } } := keeps_push ..
  have S₄ := S₃.keeps kp
  obtain ⟨items, o⟩ := own_look S₄ hx
  obtain ⟨na, rfl⟩ := Int.eq_ofNat_of_zero_le a0
  obtain ⟨nb, rfl⟩ := Int.eq_ofNat_of_zero_le (Int.le_trans a0 ab)
  have hlen : items.size = xs.length := o.rds.length
  have hlen2 : new.size = ys.length := rl2.length
  refine hno (wpAny_bind (wpAny_standAt (wpAny_bind (wpAny_holding (setItem_slice o.own (Heap.IsSliceOf.new ..) (isList_exact hl2 (keeps_exact kp)) (Int.ofNat_le.mp ab) (Int.ofNat_le.mp (hlen ▸ of_decide_eq_true c3.2)) (Nat.le_trans (hlen ▸ of_decide_eq_true c2.2) (by decide)) (hlen2 ▸ of_decide_eq_true c1.2)
    fun h' ol' hs => wpAny_release (wpAny_pure (h₄ .next _ oa (S₄.own_to hx o hs ol' ?_) trivial)))))))
  rw [extract_take]
  have kS := own_keepS o.own hs ol'
  have rl' : Rds (fun _ => True) h' items.toList xs := o.rds.keep kS fun _ _ => trivial
  exact ((rds_take na rl').1.append (((rds_flat rl2 hf.1).exact kp).keep kS fun _ _ => trivial)).append (rds_take nb rl').2
end
end Mine

set_option linter.all false
namespace Mine
open PySem PySem.W PyProof.Rows

section
variable {prog : Program} {w : World} {A : Around} {H0 : Heap} {mg mb : Str → Option Value} {XP : Heap → Heap → Value → Exc → Prop}
variable {C : CallP} {env : Env} {pa : Option Addr} {B : Heap} {P : Addr → Prop} {s₀ : Shared} {X : Addr → Prop} {oa : Str → Addr} {ρ : Loc} {p : Option Int} {s : Shared} {E : Value → Shared → Prop} {n : Nat} {Q : Flow → Shared → Prop}

theorem Assign_comp {c : Value} {elt iter : Expr} {x y : Str} {px py : Pos} {ifs : List Expr} {scope : Scope} {cl : List (Str × Addr)} {pos spos : Pos} {Q : Flow → Shared → Prop}
    (p : Value → Bool) (F : Value → Value → Prop)
    (hsw : swapsWith (.ListComp elt [⟨.Name x px, iter, ifs, 0⟩] scope pos) (some (.Name y py)) spos.line env = pure true)
    (hclos : closureFor scope env = pure cl) (hcell : ∀ z ∈ scope.names, z.2 ≠ .cell) (hkind : scope.kind = .function)
    (hnames : ∀ z ∈ scope.names, z.2 = .local → scope.names.lookup z.1 = some .local) (hx : scope.names.lookup x = some .local)
    (hy : env.kindOf y = some .local) (hp : (env.scope.kind == .class || (env.scope.kind == .module && env.locals != env.globals)) = false)
    (h : wpAny (model prog w) A (eval iter env) (fun xv s₁ => wpAny (model prog w) A (pyIter xv) (fun it s₂ => ∃ I fp wr n P St m, it = .ref I ∧ Walks prog w A I fp wr n P St ∧ n ≤ sizeLine ∧ St 0 s₂.heap ∧ (∀ b ∈ fp, b < s₂.heap.objs.size) ∧
      env.locals ∉ wr ∧ s₂.heap.Ns env.locals m ∧ (∃ o, s₂.heap.get? env.locals = some o ∧ o.cls = c) ∧ QuietOnC prog w A env scope cl x ifs elt wr P p F s₂ ∧
      (∀ D h' tk ys (vs : List Value), s₂.heap.get? D = none → h'.IsList D ys → vs.length = n → (∀ j v, vs[j]? = some v → P j v) → Paired F (vs.filter p) ys.toList →
        h'.Ns env.locals (fun z => if z = y then some (.ref D) else m z) → (∃ o, h'.get? env.locals = some o ∧ o.cls = c ∧ NonRec o) → (∀ b o, b ≠ env.locals → b ∉ wr → s₂.heap.get? b = some o → h'.get? b = some o) → Q .next { s₂ with heap := h', toks := tk })) E s₁) E s)
    (hs : ∀ x, foldedSetIterable iter env x = pure x) :
    wpAny (model prog w) A (exec (.Assign [.Name y py] (.ListComp elt [⟨.Name x px, iter, ifs, 0⟩] scope pos) spos) env) Q E s := by
  rw [exec_Assign_Name_used _ _ _ _ hsw]
  refine wpAny_bind (wpAny_standAt (wpAny_bind ?_))
  show wpAny _ A (do let _ ← comprehension (.ListComp elt [⟨.Name x px, iter, ifs, 0⟩] scope pos) scope env _ (newList []) false (eval iter env) (some (assign (.Name y py) env))) _ _ s
  refine wpAny_bind (wpAny_mono (wpAny_comprehension_free (use := some (assign (.Name y py) env)) (Q := fun _ s' => Q .next s') rfl hs hclos hkind hnames
    (wpAny_mono h (fun xv s₁ h₁ => wpAny_mono h₁ (fun it s₂ h₂ => ?_) fun _ _ e => e) fun _ _ e => e)) (fun _ s' hq => wpAny_pure (wpAny_pure hq)) fun _ _ e => e)
  refine Classical.byContradiction fun hno => ?_
  obtain ⟨I, fp, wr, n, P, St, m, rfl, W, hsz, hst, hfp, hLf, hn, ⟨oL, hoL, hcL⟩, hq, hQ⟩ := h₂
  refine hno ?_
  refine comp_block_walkC (RR := fun acc C => compPost (model prog w) A E (some (assign (.Name y py) env)) (fun _ s' => Q .next s') acc C) W hsz p F hcell hkind hx hst hfp hq ?_
  intro D C h' tk m' ys vs hD hC hDC hnC hlD hplD hlen hP hF hk
  have hLC : env.locals ≠ C := fun e => by rw [← e, hoL] at hC; cases hC
  have hLD : env.locals ≠ D := fun e => by rw [← e, hoL] at hD; cases hD
  show wpAny _ A (assign (.Name y py) env (.ref D)) _ _ _
  refine wpAny_assign_Name ?_
  rw [storeName_local hy hp]
  refine fun Γ pp _ => wp_nsSet_cls _ Γ _ pp _ (hn.at' fun o e => hk _ o hLf e) ⟨oL, hk _ _ hLf hoL, hcL⟩ y _ _ fun h₂ hn₂ hs₂ hc₂ => ?_
  exact ⟨m', hnC.sameBut hs₂ (Ne.symm hLC), fun h₃ hs₃ => hQ D h₃ _ ys vs hD ((hlD.extBut hs₂.extBut (Ne.symm hLD)).extBut hs₃.extBut hDC) hlen hP hF (hn₂.sameBut hs₃ hLC) (hc₂.imp fun o2 z => ⟨(hs₃.2 _ hLC).trans z.1, z.2⟩) fun b o hbL hbf e =>
    hs₃.extBut b o (fun q => by rw [q, hC] at e; cases e) (hs₂.extBut b o hbL (hk b o hbf e))⟩

/-- iter_sound, from a statement -/
theorem iter_soundX {f : List PyData → Option Int → Res (Fl × Loc)} {K : Value → Shared → Prop} {iter : Expr} (G : Glo H0 mg mb) (hh : A.handled = none) (ev : EvF prog w A H0 XP C env pa n)
    (S : SS H0 A env pa B P s₀ noX oa ρ p s) (h : XPost H0 A XP env pa B P s₀ Q E ((iterP (evP n C false ρ) ρ p iter).bind f))
    (k : ∀ items p₁ s₁ s₂ it, SS H0 A env pa B P s₀ noX oa ρ p₁ s₁ → Keeps s₁ s₂ → ItOK prog w A (pens pa) s₁ s₂ it items → XPost H0 A XP env pa B P s₀ Q E (f items p₁) → K it s₂) :
    wpAny (model prog w) A (eval iter env) (fun xv s₁ => wpAny (model prog w) A (pyIter xv) K E s₁) E s := by
  have hR := isR_RN H0 pa
  -- the post as one over the reading's own result
  refine iter_sound (Q := fun (q : List PyData × Option Int) s₁ => SS H0 A env pa B P s₀ noX oa ρ q.2 s₁ ∧ XPost H0 A XP env pa B P s₀ Q E (f q.1 q.2)) (V' := fun _ q (d : List PyData × Option Int) => q = d) (f := fun items p₁ => .ok (items, p₁) p₁) G hh hR (fun S e Q E => ev S e Q E) S.st ?_ ?_
  · cases e : iterP (evP n C false ρ) ρ p iter with
    | ok items p₁ =>
      rw [e] at h
      rintro q s' r' q' rfl
      exact ⟨S.step r' q', h⟩
    | err x p₁ =>
      rw [e] at h
      intro ee s' hb r' q' l xp
      have S' := S.step r' q'
      exact h ee s' hb S'.shape S'.keep S'.stays q' (fun b lb => l b (S.keep.live lb)) xp
    | stuck => rw [e] at h; exact h.elim
  · intro items p₁ s₁ s₂ it r₁ q₁ k₁ io hp
    obtain ⟨S₁, hx⟩ := hp (items, p₁) s₁ (hR.keeps (keeps_refl s₁)) q₁ rfl
    exact k items p₁ s₁ s₂ it S₁ k₁ io hx
end
end Mine

set_option linter.all false
namespace Mine
open PySem PySem.W PyProof.Rows

section
variable {prog : Program} {w : World} {A : Around} {H0 : Heap} {mg mb : Str → Option Value} {XP : Heap → Heap → Value → Exc → Prop}
variable {C : CallP} {env : Env} {pa : Option Addr} {B : Heap} {P : Addr → Prop} {s₀ : Shared} {X : Addr → Prop} {oa : Str → Addr} {ρ : Loc} {p : Option Int} {s : Shared} {E : Value → Shared → Prop} {n : Nat} {Q : Flow → Shared → Prop}

theorem swaps_comp {y : Str} {py pos spos : Pos} {elt : Expr} {gens : List Comprehension} {scope : Scope} (S : SS H0 A env pa B P s₀ X oa ρ p s) (hl : isLocal ρ y = true) (h1 : (py.line == pos.line) = true) (h2 : (!(scope.names.any fun z => z.1 == y && (z.2 == .local || z.2 == .cell))) = true) :
    swapsWith (.ListComp elt gens scope pos) (some (.Name y py)) spos.line env = pure true := by
  have hb : env.blockKind = .function := by unfold Env.blockKind; rw [S.kind]; rfl
  show (pure (env.blockKind == .function && env.kindOf y == some .local && py.line == pos.line && !(scope.names.any fun (n, k) => n == y && (k == .local || k == .cell))) : Sem Bool) = pure true
  rw [hb, local_kind S hl, h1]
  exact congrArg pure h2
theorem iterX_ne {iter : Expr} {f : List PyData → Option Int → Res (Fl × Loc)} (h : XPost H0 A XP env pa B P s₀ Q E ((iterP (evP n C false ρ) ρ p iter).bind f)) : iterP (evP n C false ρ) ρ p iter ≠ .stuck := fun e => by rw [e] at h; exact h
/-- the state where the comprehension's list is the name's -/
theorem comp_fin {y : Str} {xs : List PyData} {D : Addr} {zs : Array Value} {h' : Heap} {tk : Nat} {wr : List Addr} {p₁ : Option Int} {s₁ s₂ : Shared} {m : Str → Option Value} (S₁ : SS H0 A env pa B P s₀ noX oa ρ p₁ s₁) (k₁ : Keeps s₁ s₂) (hl : isLocal ρ y = true) (hno : noOwn ρ = true)
    (hm : ∀ x lv, look ρ x = some lv → NmOK env oa pa (fun b => Ow oa pa ρ b ∨ noX b) m s₁.heap x lv) (hnm : s₁.heap.Ns env.locals m) (hwr : ∀ b ∈ wr, s₁.heap.get? b = none) (hD : s₂.heap.get? D = none) (hlD : h'.IsList D zs) (hr : Rds (fun b => Ow oa pa (put ρ y (.val (.list xs))) b ∨ noX b) h' zs.toList xs)
    (hn' : h'.Ns env.locals (fun z => if z = y then some (.ref D) else m z)) (hc' : ∃ o, h'.get? env.locals = some o ∧ o.cls = .type "frame" ∧ NonRec o) (hkk : ∀ b o, b ≠ env.locals → b ∉ wr → s₂.heap.get? b = some o → h'.get? b = some o) :
    SS H0 A env pa B P s₀ noX oa (put ρ y (.val (.list xs))) p₁ { s₁ with heap := h', toks := tk } := by
  have hy := isLocal_some hl
  refine S₁.lcls.elim fun oL l => ?_
  have hk1 : ∀ b o, b ≠ env.locals → s₁.heap.get? b = some o → h'.get? b = some o := fun b o hb e => hkk b o hb (fun mm => by rw [hwr b mm] at e; cases e) (keeps_exact k₁ b o e)
  have hk2 : ∀ b o, s₁.heap.get? b = some o → o.cls ≠ .type "frame" → h'.get? b = some o := fun b o e hcf => hk1 b o (fun q => hcf (by rw [q, l.1] at e; cases e; exact l.2.1)) e
  have hcell : ∀ c v, s₁.heap.IsCell c v → h'.IsCell c v := fun c v z => z.imp fun o z => ⟨hk1 c o (fun q => by
    subst q
    obtain ⟨o', es, ep, ho', hd', _⟩ := hnm
    have hd := z.2
    rw [Option.some.inj (z.1.symm.trans ho'), hd'] at hd
    cases hd) z.1, z.2⟩
  have nown : ∀ {z zs}, look (put ρ y (.val (.list xs))) z = some (.own zs) → False := fun hz => look_put_go hy hz (fun _ e => by cases e) fun _ e => noOwn_look hno e
  refine S₁.names_only hk1 hn' hc' (fun z lv hz => look_put_go hy hz (fun e _ => e ▸ hy.elim fun l h => S₁.nodebug _ _ h) fun _ h => S₁.nodebug _ _ h) (fun z lv hz => look_put_go hy hz (fun e e' => ?_) fun q hz0 => ?_) (fun z zs hz => (nown hz).elim) fun z zs _ _ hz _ _ => (nown hz).elim
  · subst e; subst e'
    exact ⟨local_kind S₁ hl, .ref D, if_pos rfl, Rd.list hlD hr fun q => q.elim (fun q => q.elim (pen_not_new (h := h') S₁.pen k₁ hD) fun q => q.elim fun z q => q.elim fun zs q => nown q.1) id⟩
  · exact (hm z lv hz0).store hk2 hcell (if_neg q) rfl fun b hb => hb.imp (ow_put hy fun xs q => by cases q) id

theorem comp_none {ev : Bool → Loc → Option Int → Expr → Res PyData} {ev0 : Option Int → Expr → Res PyData} {elt : Expr} {gens : List Comprehension} {scope : Scope} (h : asGen gens = none) : compP ev ev0 ρ p elt gens scope = .stuck := by
  unfold compP
  rw [h]; rfl
theorem st_comp {y : Str} {py pos spos : Pos} {elt : Expr} {gens : List Comprehension} {scope : Scope} (G : Glo H0 mg mb) (hh : A.handled = none) (hU : A.units + 100 < cLine) (evAll : ∀ n, EvF prog w A H0 XP C env pa n) (S : SS H0 A env pa B P s₀ noX oa ρ p s)
    (h : XPost H0 A XP env pa B P s₀ Q E (compX (evP n C false ρ) ρ p y py elt gens scope pos)) : wpAny (model prog w) A (exec (.Assign [.Name y py] (.ListComp elt gens scope pos) spos) env) Q E s := by
  refine Classical.byContradiction fun hno => ?_
  have h0 := when_x h
  have c1 := Bool.and_eq_true_iff.mp h0.1
  have c2 := Bool.and_eq_true_iff.mp c1.1
  cases n with
  | zero => exact h0.2.elim
  | succ n =>
  cases hg : asGen gens with
  | none =>
    have z : XPost H0 A XP env pa B P s₀ Q E ((compP (evP n quietC) (evP n C false ρ) ρ p elt gens scope).bind (setR ρ y)) := h0.2
    rw [comp_none hg] at z
    exact z
  | some g =>
  obtain ⟨x, px, iter, ifs⟩ := g
  obtain rfl := asGen_inv hg
  have h1 : XPost H0 A XP env pa B P s₀ Q E ((Res.when (compOk scope x ρ) ((iterP (evP n C false ρ) ρ p iter).bind (compR (evP n quietC) ρ elt scope x ifs))).bind (setR ρ y)) := h0.2
  cases hc : compOk scope x ρ with
  | false => rw [hc] at h1; exact h1
  | true =>
  rw [hc] at h1
  have h2 : XPost H0 A XP env pa B P s₀ Q E ((iterP (evP n C false ρ) ρ p iter).bind fun items p => (compR (evP n quietC) ρ elt scope x ifs items p).bind (setR ρ y)) := bind_assoc ▸ h1
  have ih : IhAll prog w A H0 mg XP n := fun hC hR => ⟨fun S e Q E h => (se_all G hh hU n hC hR S).1 e Q E h, fun S e Q E h => (se_all G hh hU n hC hR S).2 e Q E h⟩
  have o := compOk_spec hc
  refine hno (Assign_comp (c := .type "frame") (cPz (bodyAt (evP n quietC) ρ elt scope x ifs)) (cF (bodyAt (evP n quietC) ρ elt scope x ifs))
      (swaps_comp S c1.2 c2.1 c2.2) (closure_eq (comp_cells S.st hc)) (no_cell hc) o.1 (local_of hc) o.2.1 (local_kind S c1.2) (storable_kind S) (iter_soundX G hh (evAll n) S h2 fun items p₁ s₁ s₂ it S₁ k₁ io h₁ => Classical.byContradiction fun hno => ?_) (fsi_of (iterX_ne h2)))
  unfold compR at h₁
  cases hal : (items.all scalar && decide (items.length ≤ sizeLine)) with
  | false => rw [hal] at h₁; exact h₁.elim
  | true =>
  rw [hal] at h₁
  have hal := Bool.and_eq_true_iff.mp hal
  cases hys : compItems (bodyAt (evP n quietC) ρ elt scope x ifs) items with
  | err _ _ => rw [hys] at h₁; exact h₁.elim
  | stuck => rw [hys] at h₁; exact h₁.elim
  | ok ys p₂ =>
  rw [hys] at h₁
  have h₂ : XPost H0 A XP env pa B P s₀ Q E (setR ρ y (.list ys) p₁) := h₁
  refine (ofOpt_x h₂).elim fun ρ' e => ?_
  obtain ⟨hst1, _, rfl⟩ := setVal_inv e.1
  have hown := (storable_or hst1).resolve_left Bool.false_ne_true
  obtain ⟨hf, rfl⟩ := compItems_ok hys
  obtain ⟨I, fp, wr, Pv, Stt, hI, W, hst, hfp, hwr, hfw, hwc, hIw, hP⟩ := io
  have hP' := itemAt_of hP hal.1
  obtain ⟨m, hnm, hm⟩ := S₁.names
  obtain ⟨oL, hoL, hcL, hnL⟩ := S₁.lcls
  refine hno ⟨I, fp, wr, items.length, Pv, Stt, m, hI, W, of_decide_eq_true hal.2, hst, hfp, (fun mm => by rw [hwr _ mm] at hoL; cases hoL), hnm.imp fun o z => z.imp fun es z => z.imp fun ep z => ⟨keeps_exact k₁ _ _ z.1, z.2⟩, ⟨oL, keeps_exact k₁ _ _ hoL, hcL⟩,
    comp_turns ih S₁.st k₁ hc hwr hP' hf, fun D h' tk zs vs hD hl hvl hvP hpr hn' hc' hkk => ?_⟩
  have fin := comp_fin (tk := tk) S₁ k₁ c1.2 hown hm hnm hwr hD hl (comp_list hP' hvl hvP hpr) hn' hc' hkk
  obtain ⟨h2, t2, rfl, _⟩ := k₁
  exact e.2 .next _ oa fin trivial
end
end Mine

set_option linter.all false
namespace Mine
open PySem PySem.W PyProof.Rows

section
variable {prog : Program} {w : World} {A : Around} {H0 : Heap} {mg mb : Str → Option Value} {XP : Heap → Heap → Value → Exc → Prop}
variable {C : CallP} {env : Env} {pa : Option Addr} {B : Heap} {P : Addr → Prop} {s₀ : Shared} {X : Addr → Prop} {oa : Str → Addr} {ρ : Loc} {p : Option Int} {s : Shared} {E : Value → Shared → Prop} {n : Nat} {Q : Flow → Shared → Prop}

theorem calm_x {r : Res (Fl × Loc)} (h : XPost H0 A XP env pa B P s₀ Q E r.calm) : ∃ q p', r = .ok q p' ∧ XPost H0 A XP env pa B P s₀ Q E (.ok q p') := by
  cases r with
  | ok q p' => exact ⟨q, p', rfl, h⟩
  | err _ _ => exact h.elim
  | stuck => exact h.elim

/-- a body behind which the loop goes on as K says -/
theorem body_go {K : Flow → Shared → Prop} {b : List Stmt} {f : Loc → Option Int → Res (Fl × Loc)} {fl : Fl} {ρ₁ : Loc} {p₁ : Option Int} (ihB : SXs prog w A H0 XP env pa b f) (S : SS H0 A env pa B P s₀ noX oa ρ p s) (e : f ρ p = .ok (fl, ρ₁) p₁)
    (k1 : fl = .next → ∀ s' oa', SS H0 A env pa B P s₀ noX oa' ρ₁ p₁ s' → K .next s') (k2 : fl = .brk → ∀ s' oa', SS H0 A env pa B P s₀ noX oa' ρ₁ p₁ s' → K .brk s') (k3 : fl = .cont → ∀ s' oa', SS H0 A env pa B P s₀ noX oa' ρ₁ p₁ s' → K .cont s')
    (k4 : ∀ d v, fl = .ret d → ∀ s' oa', SS H0 A env pa B P s₀ noX oa' ρ₁ p₁ s' → Rd (pens pa) s'.heap v d → K (.ret v) s') : wpAny (model prog w) A (execs b env) K E s := by
  refine ihB S ?_
  rw [e]
  intro g s' oa' S' hf
  cases fl <;> cases g <;> first | exact hf.elim | skip
  · exact k1 rfl s' oa' S'
  · exact k2 rfl s' oa' S'
  · exact k3 rfl s' oa' S'
  · exact k4 _ _ rfl s' oa' S' hf
/-- a test behind which K goes on -/
theorem test_go {K : Bool → Shared → Prop} {t : Expr} {c : PyData} {p₁ : Option Int} (ev : EvT prog w A H0 XP C env pa n) (S : SS H0 A env pa B P s₀ noX oa ρ p s) (e : evP n C true ρ p t = .ok c p₁)
    (k : ∀ bb s', c = .bool bb → SS H0 A env pa B P s₀ noX oa ρ p₁ s' → K bb s') : wpAny (model prog w) A (isTrue t env (eval t env)) K E s := by
  refine ev S.st t _ _ ?_
  rw [e]
  exact fun bb s' r' q' hb => k bb s' hb (S.step r' q')

noncomputable def WInv (H0 : Heap) (A : Around) (env : Env) (pa : Option Addr) (B : Heap) (P : Addr → Prop) (s₀ : Shared) (F : Nat → Loc → Option Int → Res (Fl × Loc)) (out : Res (Fl × Loc)) (k : Nat) (s : Shared) : Prop :=
  ∃ oa ρ p, SS H0 A env pa B P s₀ noX oa ρ p s ∧ F k ρ p = out
theorem st_while {t : Expr} {b : List Stmt} {pos : Pos} {f : Loc → Option Int → Res (Fl × Loc)} (ev : EvT prog w A H0 XP C env pa n) (ihB : SXs prog w A H0 XP env pa b f) (S : SS H0 A env pa B P s₀ noX oa ρ p s)
    (h : XPost H0 A XP env pa B P s₀ Q E (whileP (fun ρ p => evP n C true ρ p t) f whileFuel ρ p).calm) : wpAny (model prog w) A (exec (.While t b [] pos) env) Q E s := by
  refine (calm_x h).elim fun q h => h.elim fun p' h => wpAny_While (codeAny_whileLoop (WInv H0 A env pa B P s₀ (whileP (fun ρ p => evP n C true ρ p t) f) (.ok q p')) (fun k s i => Classical.byContradiction fun hno => ?_) whileFuel ⟨oa, ρ, p, S, h.1⟩)
  obtain ⟨oa, ρ, p, S, hk⟩ := i
  obtain ⟨fl, ρ'⟩ := q
  cases k with
  | zero => cases hk
  | succ k =>
    obtain ⟨c, p₁, e₁, h₁⟩ := bind_ok (r := evP n C true ρ p t) hk
    refine hno (test_go ev S e₁ fun bb s' hb S' => ?_)
    subst hb
    cases bb with
    | false => exact wpAny_execs_nil (by cases h₁; exact h.2 .next s' oa S' trivial)
    | true =>
      refine (bind_ok h₁).elim fun r₁ h₂ => h₂.elim fun p₂ h₂ => body_go ihB S' h₂.1 (fun e s₂ oa₂ S₂ => ?_) (fun e s₂ oa₂ S₂ => ?_) (fun e s₂ oa₂ S₂ => ?_) fun d v e s₂ oa₂ S₂ rv => ?_
      · exact ⟨k, Nat.lt_succ_self _, oa₂, _, p₂, S₂, by have z := h₂.2; rw [e] at z; exact z⟩
      · have z := h₂.2; rw [e] at z; cases z; exact h.2 .next s₂ oa₂ S₂ trivial
      · exact ⟨k, Nat.lt_succ_self _, oa₂, _, p₂, S₂, by have z := h₂.2; rw [e] at z; exact z⟩
      · have z := h₂.2; rw [e] at z; cases z; exact h.2 (.ret v) s₂ oa₂ S₂ rv

noncomputable def ForInv (H0 : Heap) (A : Around) (env : Env) (pa : Option Addr) (h₁ : Heap) (LP : Addr → Prop) (s₁ : Shared) (items : List PyData) (T : Nat → Heap → Prop) (F : List PyData → Loc → Option Int → Res (Fl × Loc)) (out : Res (Fl × Loc)) (k : Nat) (s : Shared) : Prop :=
  ∃ i oa' ρ₁ p₁, k = items.length + 1 - i ∧ i ≤ items.length ∧ SS H0 A env pa h₁ LP s₁ noX oa' ρ₁ p₁ s ∧ T i s.heap ∧ F (items.drop i) ρ₁ p₁ = out
noncomputable def TurnPost (R : Result → Shared → Prop) (I : Nat → Shared → Prop) (k : Nat) (f : Flow) (s : Shared) : Prop := match f with
  | .next | .cont => ∃ m, m < k ∧ I m s
  | .brk => R (.ok .next) s
  | .ret v => R (.ok (.ret v)) s

/-- what a turn's base gives up holds nothing of the loop's own -/
theorem turn_keep {tg : Expr} {it : Value} {items : List PyData} {fp wr : List Addr} {T : Nat → Heap → Prop} {h₁ : Heap} {s' s₅ : Shared} {i : Nat} (Tn : Turns prog w A (loopP env oa pa ρ) h₁ it tg items fp wr T) (hT : T i s'.heap) (k : KeepS (loopP env oa pa ρ) h₁ s.heap) (hk' : ∀ b o, b ∉ wr → s.heap.get? b = some o → s'.heap.get? b = some o)
    {oa' : Str → Addr} {ρ₁ : Loc} {p₃ : Option Int} (S' : SS H0 A env pa h₁ (loopP env oa pa ρ) s₀ noX oa' ρ₁ p₃ s') (hit : ∀ b ∈ wr, IterB s'.heap b) (k5 : KeepS (loopP env oa' pa ρ₁) s'.heap s₅.heap) : ∀ c ∈ fp, ∀ o, s'.heap.get? c = some o → s₅.heap.get? c = some o := by
  refine fun c hc o ho => Classical.byContradiction fun hno => (Tn.old c hc).elim (fun m => ?_) fun z => z.1.elim fun o' y => ?_
  · have hcl := (hit c m).cls ho
    refine (k5 c o ho).elim hno fun z => z.elim (fun z => hcl.1 z.1) fun z => z.1.elim (fun e => ?_) fun q => q.elim (fun q => ?_) fun q => q.elim fun y q => q.elim fun ys q => ?_
    · exact S'.lcls.elim fun oL l => hcl.1 (Option.some.inj (ho.symm.trans (e ▸ l.1)) ▸ l.2.1)
    · have q0 : pa = some c := q
      subst q0
      have pen := S'.pen
      cases p₃ with
      | none => exact pen
      | some kk => exact pen.1.elim fun t l => l.elim fun oo z => hcl.2.1 (Option.some.inj (ho.symm.trans z.1) ▸ z.2.1)
    · exact (S'.own y ys q.1).2.elim fun its z => z.elim fun nn z => z.elim fun sl z => hcl.2.1 (Option.some.inj (ho.symm.trans (q.2 ▸ z)) ▸ rfl)
  · have hcw : c ∉ wr := fun m => by rw [Tn.new c m] at y; cases y.1
    have e := hk' c o' hcw (k.at y.1 y.2 z.2)
    rw [ho] at e; cases e
    refine (k5 c o ho).elim hno fun w => w.elim (fun w => y.2 w.1) fun w => z.2 (w.1.elim .inl fun q => q.elim (fun q => .inr (.inl q)) fun q => q.elim fun x q => q.elim fun xs q => ?_)
    exact q.2 ▸ (S'.own x xs q.1).1.1.elim id fun hn => absurd ⟨o, q.2 ▸ y.1⟩ hn

/-- the walk of a for: its list's heap is the base, its turns keep it -/
theorem for_code {tg : Expr} {b : List Stmt} {it : Value} {items : List PyData} {fp wr : List Addr} {T : Nat → Heap → Prop} {f : Loc → Option Int → Res (Fl × Loc)} {s₁ s₂ : Shared} {fl : Fl} {ρ' : Loc} {p' : Option Int} {R : Result → Shared → Prop} (hh : A.handled = none)
    (ihB : SXs prog w A H0 XP env pa b f) (S₁ : SS H0 A env pa B P s₀ noX oa ρ p s₁) (k₁ : Keeps s₁ s₂) (Tn : Turns prog w A (loopP env oa pa ρ) s₁.heap it tg items fp wr T) (ht : T 0 s₂.heap)
    (hf : forP (fun d ρ p => (Res.ofOpt p (bindP tg d ρ)).bind fun ρ p => f ρ p) items ρ p = .ok (fl, ρ') p')
    (hR : ∀ g s' oa', SS H0 A env pa B P s₀ noX oa' ρ' p' s' → FlOK pa s'.heap fl g → R (.ok g) s') : codeAny (model prog w) A (.forLoop tg it b [] env) R s₂ := by
  have Sb : SS H0 A env pa s₁.heap (loopP env oa pa ρ) s₁ noX oa ρ p s₂ := by
    obtain ⟨h2, t2, rfl, kk⟩ := k₁
    exact S₁.rebase.keeps ⟨h2, t2, rfl, kk⟩
  refine codeAny_forLoop_any (ForInv H0 A env pa s₁.heap (loopP env oa pa ρ) s₁ items T (forP fun d ρ p => (Res.ofOpt p (bindP tg d ρ)).bind fun ρ p => f ρ p) (.ok (fl, ρ') p')) (fun k s inv => Classical.byContradiction fun hno => ?_) (items.length + 1) ⟨0, oa, ρ, p, rfl, Nat.zero_le _, Sb, ht, hf⟩
  obtain ⟨i, oa', ρ₁, p₁, rfl, hi, S, hT, hfi⟩ := inv
  cases hd : items[i]? with
  | none =>
    obtain rfl : i = items.length := Nat.le_antisymm hi (List.getElem?_eq_none_iff.mp hd)
    rw [List.drop_length] at hfi
    cases hfi
    exact hno (wpAny_mono (Tn.done s (fun s' => SS H0 A env pa s₁.heap (loopP env oa pa ρ) s₁ noX oa' ρ' p' s') _ hT fun h' tk hk => S.next S₁.stays hk (Tn.iters _ _ hT) Tn.new) (fun r s' e => e.1 ▸ wpAny_execs_nil (hR .next s' oa' (S₁.unbase e.2) trivial)) fun _ _ x => x)
  | some d =>
    have hlt := List.getElem?_eq_some_iff.mp hd
    rw [List.drop_eq_getElem_cons hlt.1, hlt.2] at hfi
    obtain ⟨⟨fl₁, ρ₂⟩, p₂, e₂, h₂⟩ := bind_ok (r := (Res.ofOpt p₁ (bindP tg d ρ₁)).bind fun ρ p => f ρ p) hfi
    obtain ⟨ρ₃, hb, h₃⟩ : ∃ ρ₃, bindP tg d ρ₁ = some ρ₃ ∧ f ρ₃ p₁ = .ok (fl₁, ρ₂) p₂ := by
      cases hbb : bindP tg d ρ₁ with
      | none => rw [hbb] at e₂; cases e₂
      | some ρx => rw [hbb] at e₂; exact ⟨ρx, rfl, e₂⟩
    refine hno (wpAny_mono (Tn.item i s (fun v s₂' => wpAny (model prog w) A (assign tg env v) (fun _ s₃' => wpAny (model prog w) A (execs b env)
      (TurnPost R (ForInv H0 A env pa s₁.heap (loopP env oa pa ρ) s₁ items T (forP fun d ρ p => (Res.ofOpt p (bindP tg d ρ)).bind fun ρ p => f ρ p) (.ok (fl, ρ') p')) (items.length + 1 - i)) (notedBy (model prog w) A env fun e s' => R (.error e) s') s₃') (notedBy (model prog w) A env fun e s' => R (.error e) s') s₂') _ d hd hT S.keep fun v h' tk hT' hk' rv => ?_) (fun r s' z => z.elim fun v z => z.1 ▸ z.2) fun _ _ x => x)
    have S' : SS H0 A env pa s₁.heap (loopP env oa pa ρ) s₁ noX oa' ρ₁ p₁ { s with heap := h', toks := tk } := S.next S₁.stays hk' (Tn.iters _ _ hT) Tn.new
    -- the turn's own base: the heap as the item came
    refine bind_sound hh S'.rebase (rv.wider fun b q _ => .inr (.inl q)) hb fun s₄ S₄ => ?_
    have hT₅ {s₅ : Shared} (k : KeepS (loopP env oa' pa ρ₁) h' s₅.heap) : T (i + 1) s₅.heap := Tn.frame _ _ _ hT' (turn_keep (s' := { s with heap := h', toks := tk }) Tn hT' S.keep hk' S' (Tn.iters _ _ hT') k)
    have go {s₅ : Shared} {oa₅ : Str → Addr} (S₅ : SS H0 A env pa h' (loopP env oa' pa ρ₁) { s with heap := h', toks := tk } noX oa₅ ρ₂ p₂ s₅) (h : forP (fun d ρ p => (Res.ofOpt p (bindP tg d ρ)).bind fun ρ p => f ρ p) (items.drop (i + 1)) ρ₂ p₂ = .ok (fl, ρ') p') :
        ∃ m, m < items.length + 1 - i ∧ ForInv H0 A env pa s₁.heap (loopP env oa pa ρ) s₁ items T (forP fun d ρ p => (Res.ofOpt p (bindP tg d ρ)).bind fun ρ p => f ρ p) (.ok (fl, ρ') p') m s₅ :=
      ⟨items.length + 1 - (i + 1), Nat.sub_lt_sub_left (Nat.lt_succ_of_lt hlt.1) (Nat.lt_succ_self _), i + 1, oa₅, ρ₂, p₂, rfl, hlt.1, S'.unbase S₅, hT₅ S₅.keep, h⟩
    refine body_go ihB S₄ h₃ (fun e s₅ oa₅ S₅ => ?_) (fun e s₅ oa₅ S₅ => ?_) (fun e s₅ oa₅ S₅ => ?_) fun d' v' e s₅ oa₅ S₅ rv2 => ?_
    · exact go S₅ (by rw [e] at h₂; exact h₂)
    · rw [e] at h₂; cases h₂; exact hR .next s₅ oa₅ (S₁.unbase (S'.unbase S₅)) trivial
    · exact go S₅ (by rw [e] at h₂; exact h₂)
    · rw [e] at h₂; cases h₂; exact hR (.ret v') s₅ oa₅ (S₁.unbase (S'.unbase S₅)) rv2
end
end Mine

set_option linter.all false
namespace Mine
open PySem PySem.W PyProof.Rows

theorem as_both {h : Heap} : (∀ {v d as}, Reads h v d as → ∀ a ∈ as, ∃ o, h.get? a = some o ∧ ListLike o) ∧ ∀ {vs ds as}, ReadsAll h vs ds as → ∀ a ∈ as, ∃ o, h.get? a = some o ∧ ListLike o :=
  reads_ind (N := fun _ _ as => ∀ a ∈ as, ∃ o, h.get? a = some o ∧ ListLike o) (fun _ m => nomatch m) (fun _ _ m => nomatch m) (fun _ _ _ m => nomatch m) (fun _ _ _ m => nomatch m)
    (fun h1 h2 _ h4 => mem_cns ⟨_, h1, .inl h2⟩ h4) (fun _ _ _ h4 => h4) (fun h1 h2 _ h4 h5 => mem_app (mem_cns ⟨_, h1, .inr (.inr h2)⟩ h4) h5) (fun _ m => nomatch m) mem_app
theorem noFrame {o : Obj} (h : ListLike o) : o.cls ≠ .type "frame" := h.elim (fun h => type_ne h (by decide)) fun h => h.elim (fun h => type_ne h (by decide)) fun h => type_ne h (by decide)

section
variable {prog : Program} {w : World} {A : Around} {H0 : Heap} {mg mb : Str → Option Value} {XP : Heap → Heap → Value → Exc → Prop}
variable {C : CallP} {env : Env} {pa : Option Addr} {B : Heap} {P : Addr → Prop} {s₀ : Shared} {X : Addr → Prop} {oa : Str → Addr} {ρ : Loc} {p : Option Int} {s : Shared} {E : Value → Shared → Prop} {n : Nat} {Q : Flow → Shared → Prop}

theorem rd_loop {v : Value} {d : PyData} (S : SS H0 A env pa B P s₀ X oa ρ p s) (r : Rd (Ow oa pa ρ) s.heap v d) : Rd (loopP env oa pa ρ) s.heap v d := r.imp fun as r => ⟨r.1, fun a m q => q.elim (fun e => (as_both.1 r.1 a m).elim fun o z => S.lcls.elim fun oL l => noFrame z.2 (Option.some.inj (z.1.symm.trans (e ▸ l.1)) ▸ l.2.1)) (r.2 a m)⟩
theorem rd_walk {v : Value} {d : PyData} (S : SS H0 A env pa B P s₀ X oa ρ p s) (r : Rd (pens pa) s.heap v d) (hc : (flat d || noOwn ρ) = true) : Rd (loopP env oa pa ρ) s.heap v d :=
  (Bool.or_eq_true_iff.mp hc).elim r.flat fun hn => rd_loop S (r.wider fun b q _ => q.elim id fun q => q.elim fun x q => q.elim fun xs q => (noOwn_look hn q.1).elim)

theorem enum_turns {l e i0 : Addr} {items : Array Value} {ds : List PyData} {W : Addr → Prop} {hl : Heap} {ts : List Expr} {k : Nat} {tp : Pos} (hh : A.handled = none) (hlist : hl.IsList l items) (hr : Rds W hl items.toList ds) (hw : ¬ W l) (he : hl.get? e = none) (hi : hl.get? i0 = none) (hne : e ≠ i0) :
    Turns prog w A W hl (.ref e) (.Tuple ts k tp) (ds.zipIdx.map fun (q : PyData × Nat) => PyData.tuple [.int (q.2 : Int), q.1]) [e, i0, l] [e, i0] (fun i h => (∃ old, IsEnum h e i0 i old) ∧ h.IsListIter i0 l i ∧ h.IsList l items) := by
  have hlive : ∃ o, hl.get? l = some o ∧ o.cls = .type "list" := hlist.imp fun o z => ⟨z.1, z.2.1⟩
  have hle : l ≠ e := fun q => hlive.elim fun o z => by rw [q, he] at z; cases z.1
  have hli : l ≠ i0 := fun q => hlive.elim fun o z => by rw [q, hi] at z; cases z.1
  have hlen : items.size = ds.length := hr.length
  have h2 {p : Addr → Prop} (a : p e) (b : p i0) : ∀ x ∈ [e, i0], p x := mem_cns a (mem_1 b)
  refine ⟨fun i h h' x hk => ⟨x.1.imp fun old a => hk e (.head _) _ a, x.2.1.at fun o q => hk i0 (.tail _ (.head _)) o q, x.2.2.at fun o q => hk l (.tail _ (.tail _ (.head _))) o q⟩,
    fun i h x => h2 (x.1.elim fun old a => ⟨_, "enumerate", _, a, rfl, by decide, rfl⟩) (x.2.1.elim fun o z => ⟨o, "list_iterator", _, z.1, z.2.1, by decide, z.2.2⟩), h2 he hi,
    mem_cns (.inl (.head _)) (mem_cns (.inl (.tail _ (.head _))) (mem_1 (.inr ⟨hlive.imp fun o z => ⟨z.1, cls_ne z.2 (by decide)⟩, hw⟩))), fun i s Q E d hd x hk hQ => Classical.byContradiction fun hno => ?_, fun s Q E x hQ => ?_⟩
  · obtain ⟨⟨old, a⟩, b, c⟩ := x
    rw [List.getElem?_map, List.getElem?_zipIdx, Nat.zero_add, Option.map_map] at hd
    obtain ⟨x, hx, rfl⟩ := Option.map_eq_some_iff.mp hd
    obtain ⟨v, hv, rv⟩ := hr.at hx
    rw [Array.getElem?_toList] at hv
    refine hno (wpAny_pyNext_enum_item a b c hv hne fun h' ho hit' hT hsz hkk => ⟨_, rfl, wpAny_letOwnedTupleGo_enum ho fun h₂ he₂ hs₂ => ?_⟩)
    have hk2 : ∀ b o, b ∉ [e, i0] → s.heap.get? b = some o → h₂.get? b = some o := fun b o hb q =>
      have n1 : b ≠ e := fun z => hb (z ▸ .head _)
      (hs₂.2 b n1).trans (hkk b o n1 (fun z => hb (z ▸ .tail _ (.head _))) q)
    have nl : l ∉ [e, i0] := fun m => (List.mem_cons.mp m).elim hle fun m => hli (List.mem_singleton.mp m)
    refine hQ _ h₂ _ ⟨⟨_, by exact_mod_cast he₂⟩, hit'.imp fun o z => ⟨(hs₂.2 _ hne.symm).trans z.1, z.2⟩, c.imp fun o z => ⟨hk2 l o nl z.1, z.2⟩⟩ hk2 (Rd.tuple (items := #[.int i s.toks, v]) ⟨_, (hs₂.2 _ (Nat.ne_of_gt (Heap.lt_size a))).trans hT, rfl, _, rfl⟩ (.cons (.int ..) (.cons ((rv.keep hk fun _ q => q).imp fun as r => ⟨reads_lists (fun b' o q hc => hk2 b' o (fun m => ?_) q) r.1, r.2⟩) .nil)))
    refine (List.mem_cons.mp m).elim (fun z => ?_) fun m => ?_
    · rw [z, a] at q; cases q
      exact hc.elim (type_ne rfl (by decide)) fun hc => hc.elim (type_ne rfl (by decide)) (type_ne rfl (by decide))
    · obtain rfl := List.mem_singleton.mp m
      obtain ⟨oi, hoi, hci, _⟩ := b
      rw [hoi] at q; cases q
      exact hc.elim (type_ne hci (by decide)) fun hc => hc.elim (type_ne hci (by decide)) (type_ne hci (by decide))
  · have hz : (ds.zipIdx.map fun (q : PyData × Nat) => PyData.tuple [.int (q.2 : Int), q.1]).length = items.size := by rw [List.length_map, List.length_zipIdx, hlen]
    rw [hz] at x
    exact x.1.elim fun old a => wpAny_pyNext_enum_end hh a x.2.1 x.2.2 (Array.getElem?_size ..) fun h' hk => ⟨rfl, hQ h' s.toks fun bb o hb q => hk bb o (fun m => hb (m ▸ .tail _ (.head _))) q⟩
end
end Mine

set_option linter.all false
namespace Mine
open PySem PySem.W PyProof.Rows

section
variable {prog : Program} {w : World} {A : Around} {H0 : Heap} {mg mb : Str → Option Value} {XP : Heap → Heap → Value → Exc → Prop}
variable {C : CallP} {env : Env} {pa : Option Addr} {B : Heap} {P : Addr → Prop} {s₀ : Shared} {X : Addr → Prop} {oa : Str → Addr} {ρ : Loc} {p : Option Int} {s : Shared} {E : Value → Shared → Prop} {n : Nat} {Q : Flow → Shared → Prop}

/-- what a loop asks of its head's iterator -/
noncomputable abbrev ForK (prog : Program) (w : World) (A : Around) (H0 : Heap) (XP : Heap → Heap → Value → Exc → Prop) (env : Env) (pa : Option Addr) (B : Heap) (P : Addr → Prop) (s₀ : Shared) (oa : Str → Addr) (ρ : Loc) (Q : Flow → Shared → Prop) (E : Value → Shared → Prop) (tg : Expr) (f : List PyData → Option Int → Res (Fl × Loc)) (K : Value → Shared → Prop) : Prop :=
  ∀ items p₁ s₁ s₂ it fp wr T, SS H0 A env pa B P s₀ noX oa ρ p₁ s₁ → Keeps s₁ s₂ → Turns prog w A (loopP env oa pa ρ) s₁.heap it tg items fp wr T → T 0 s₂.heap → XPost H0 A XP env pa B P s₀ Q E (f items p₁) → K it s₂
variable {f : List PyData → Option Int → Res (Fl × Loc)} {K : Value → Shared → Prop} {tg : Expr}

theorem for_one {p₁ : Option Int} {s₁ : Shared} {v : Value} {d : PyData} (hh : A.handled = none) (k : ForK prog w A H0 XP env pa B P s₀ oa ρ Q E tg f K) (S₁ : SS H0 A env pa B P s₀ noX oa ρ p₁ s₁) (rv : Rd (loopP env oa pa ρ) s₁.heap v d) (h : XPost H0 A XP env pa B P s₀ Q E ((Res.ofOpt p₁ (itemsOf d)).bind f)) :
    wpAny (model prog w) A (pyIter v) K E s₁ :=
  (ofOpt_x h).elim fun items e => pyIter_sound hh rv e.1 fun s₂ it kk io => (turns_of_it (tg := tg) io).elim fun fp z => z.elim fun wr z => z.elim fun T z => k items p₁ s₁ s₂ it fp wr T S₁ kk z.1 z.2 e.2
theorem isValL_inv {o : Option LV} (h : isValL o = true) : ∃ d, o = some (.val d) := by
  cases o with
  | none => cases h
  | some l => cases l with
    | val d => exact ⟨d, rfl⟩
    | _ => cases h
/-- a list that may be walked -/
theorem walk_go {G : Value → Shared → Prop} {e : Expr} (ev : EvF prog w A H0 XP C env pa n) (S : SS H0 A env pa B P s₀ noX oa ρ p s) {g : PyData → Option Int → Res (Fl × Loc)}
    (h : XPost H0 A XP env pa B P s₀ Q E ((evP n C false ρ p e).bind g)) (hg : ∀ d p, XPost H0 A XP env pa B P s₀ Q E (g d p) → walkOk ρ d e = true)
    (k : ∀ v d p₁ s₁, SS H0 A env pa B P s₀ noX oa ρ p₁ s₁ → Rd (loopP env oa pa ρ) s₁.heap v d → XPost H0 A XP env pa B P s₀ Q E (g d p₁) → G v s₁) : wpAny (model prog w) A (eval e env) G E s := by
  cases hN : (asName e).any fun x => isValL (look ρ x.1) with
  | true =>
    obtain ⟨x, hx, hv⟩ := any_inv hN
    obtain ⟨d, hd⟩ := isValL_inv hv
    obtain rfl := asName_inv hx
    rcases evP_name (C := C) (ρ := ρ) (p := p) (n := n) (x := x.1) (xp := x.2) with q | q
    · rw [q] at h; exact h.elim
    rw [q, hd] at h
    exact S.names.elim fun m hm => (hm.2 _ _ hd).2.elim fun v z => wpAny_Name (wpAny_loadName_local S.kind (hm.2 _ _ hd).1 hm.1 z.1 (k v d p s S (rd_loop S (z.2.wider fun b q _ => .inl q)) h)) (S.nodebug _ _ hd)
  | false =>
    refine seqX S (ev S.st e · E) h fun v d p₁ s₁ S₁ r₁ x₁ h₁ => k v d p₁ s₁ S₁ (rd_walk S₁ x₁ ?_) h₁
    have z := hg d p₁ h₁
    unfold walkOk at z
    rw [hN, Bool.false_or] at z
    exact z

theorem for_plain {iter : Expr} (hh : A.handled = none) (ev : EvF prog w A H0 XP C env pa n) (S : SS H0 A env pa B P s₀ noX oa ρ p s) (h : XPost H0 A XP env pa B P s₀ Q E ((itemsR (evP n C false ρ) ρ p iter).bind f)) (k : ForK prog w A H0 XP env pa B P s₀ oa ρ Q E tg f K) :
    wpAny (model prog w) A (eval iter env) (fun xv s₁ => wpAny (model prog w) A (pyIter xv) K E s₁) E s := by
  have h' : XPost H0 A XP env pa B P s₀ Q E ((evP n C false ρ p iter).bind fun d p => Res.when (walkOk ρ d iter) ((Res.ofOpt p (itemsOf d)).bind f)) := by
    have h : XPost H0 A XP env pa B P s₀ Q E ((evP n C false ρ p iter).bind fun d p => (Res.when (walkOk ρ d iter) (Res.ofOpt p (itemsOf d))).bind f) := bind_assoc ▸ h
    cases e : evP n C false ρ p iter with
    | ok d q =>
      rw [e] at h
      have h : XPost H0 A XP env pa B P s₀ Q E ((Res.when (walkOk ρ d iter) (Res.ofOpt q (itemsOf d))).bind f) := h
      show XPost H0 A XP env pa B P s₀ Q E (Res.when (walkOk ρ d iter) ((Res.ofOpt q (itemsOf d)).bind f))
      cases hw : walkOk ρ d iter <;> rw [hw] at h <;> exact h
    | err x q => rw [e] at h; exact h
    | stuck => rw [e] at h; exact h
  exact walk_go ev S h' (fun d p h => (when_x h).1) fun v d p₁ s₁ S₁ rv h₁ => for_one hh k S₁ rv (when_x h₁).2

theorem calm_inv {β γ : Type} {r : Res β} {g : β → Option Int → Res γ} {f : γ → Option Int → Res (Fl × Loc)} (h : XPost H0 A XP env pa B P s₀ Q E ((r.calm.bind g).bind f)) : ∃ d p₁, r = .ok d p₁ ∧ XPost H0 A XP env pa B P s₀ Q E ((g d p₁).bind f) := by
  cases r with
  | ok d p₁ => exact ⟨d, p₁, rfl, h⟩
  | err x p₁ => exact h.elim
  | stuck => exact h.elim
theorem when_bind {β : Type} {c : Bool} {r : Res β} {f : β → Option Int → Res (Fl × Loc)} (h : XPost H0 A XP env pa B P s₀ Q E ((Res.when c r).bind f)) : c = true ∧ XPost H0 A XP env pa B P s₀ Q E (r.bind f) := by
  cases c with
  | true => exact ⟨rfl, h⟩
  | false => exact h.elim
theorem only_flats {ds items : List PyData} (h : rangeP ds = some items) : flats ds = true := by
  unfold rangeP at h
  cases h1 : one ds with
  | some a =>
    rw [h1] at h
    refine bind_go h fun n hn _ => ?_
    rw [one_inv h1, intOf_inv hn]; rfl
  | none =>
    rw [h1] at h
    refine bind_go h fun ab h2 h => bind_go h fun a ha h => bind_go h fun b hb _ => ?_
    rw [two_inv h2, intOf_inv ha, intOf_inv hb]; rfl

theorem for_range {fn : Str} {fp pos : Pos} {args : List Expr} (G : Glo H0 mg mb) (hh : A.handled = none) (ev : EvF prog w A H0 XP C env pa n) (S : SS H0 A env pa B P s₀ noX oa ρ p s) (hf : (fn == ("range" : Str)) = true) (h : XPost H0 A XP env pa B P s₀ Q E ((rngR (evP n C false ρ) ρ p fn args).bind f))
    (k : ForK prog w A H0 XP env pa B P s₀ oa ρ Q E tg f K) : wpAny (model prog w) A (eval (.Call (.Name fn fp) args [] pos) env) (fun xv s₁ => wpAny (model prog w) A (pyIter xv) K E s₁) E s :=
  have h1 := when_bind h
  (calm_inv h1.2).elim fun ds z => z.elim fun p₁ z => (ofOpt_x z.2).elim fun items e => have ok := evals_ok z.1
    rng_call G S.st (isGlobL_inv h1.1) hf ok.1 (ne_of_len ok.2 (rangeP_ne e.1)) (evals_sound (isR_RN H0 pa) (fun S e Q E => ev S e Q E) S.st (z.1 ▸ fun vs s' r' q' x' => range_sound hh (rds_flat (W' := loopP env oa pa ρ) x' (only_flats e.1)) e.1 fun s₂ it kk io =>
      (turns_of_it (tg := tg) io).elim fun fp z => z.elim fun wr z => z.elim fun T z => k items p₁ s' s₂ it fp wr T (S.step r' q') kk z.1 z.2 e.2))

theorem enum_fin {p₁ : Option Int} {s₁ : Shared} {v : Value} {xs : List PyData} (hh : A.handled = none) (htup : isTup tg = true) (k : ForK prog w A H0 XP env pa B P s₀ oa ρ Q E tg f K) (S₁ : SS H0 A env pa B P s₀ noX oa ρ p₁ s₁) (rv : Rd (loopP env oa pa ρ) s₁.heap v (.list xs))
    (h : XPost H0 A XP env pa B P s₀ Q E (f (xs.zipIdx.map fun (q : PyData × Nat) => PyData.tuple [.int (q.2 : Int), q.1]) p₁)) : wpAny (model prog w) A (call (.type "enumerate") [v]) (fun xv s₁ => wpAny (model prog w) A (pyIter xv) K E s₁) E s₁ := by
  obtain ⟨l, items, rfl, hl, rl, hw⟩ := rv.list_inv
  cases tg with
  | Tuple ts kk tp =>
    exact call_enumerate_list hl fun h' hE hI hsz hk => wpAny_pyIter_enum hE (k _ p₁ s₁ { s₁ with heap := h' } _ _ _ _ S₁ ⟨h', s₁.toks, rfl, hk⟩ (enum_turns hh hl rl hw (Option.eq_none_iff_forall_ne_some.mpr fun o q => absurd (Heap.lt_size q) (Nat.not_lt.mpr (Nat.le_succ _))) (get_size _) (Nat.succ_ne_self _)) ⟨⟨_, hE⟩, hI, isList_exact hl hk⟩ h)
  | _ => cases htup
theorem for_enum {fn : Str} {fp pos : Pos} {args : List Expr} (G : Glo H0 mg mb) (hh : A.handled = none) (ev : EvF prog w A H0 XP C env pa n) (S : SS H0 A env pa B P s₀ noX oa ρ p s) (hf : (fn == ("enumerate" : Str)) = true) (h : XPost H0 A XP env pa B P s₀ Q E ((enumR (isTup tg) (evP n C false ρ) ρ p fn args).bind f))
    (k : ForK prog w A H0 XP env pa B P s₀ oa ρ Q E tg f K) : wpAny (model prog w) A (eval (.Call (.Name fn fp) args [] pos) env) (fun xv s₁ => wpAny (model prog w) A (pyIter xv) K E s₁) E s := by
  obtain rfl := eq_of_beq hf
  have h1 := when_bind h
  cases ho : one args with
  | none =>
    have z := h1.2
    rw [ho] at z
    exact z.elim
  | some e =>
  obtain rfl := one_inv ho
  obtain ⟨d, p₁, hk, h2⟩ := calm_inv (r := evP n C false ρ p e) (g := fun d p => (Res.ofOpt p (lstOf d)).bind fun xs p => Res.when (decide (xs.length ≤ 1000) && walkOk ρ d e && isTup tg && notStar e) (.ok (xs.zipIdx.map fun (q : PyData × Nat) => PyData.tuple [.int (q.2 : Int), q.1]) p)) h1.2
  obtain ⟨xs, hx, h3⟩ := ofOpt_x (bind_assoc ▸ h2)
  obtain rfl := lstOf_inv hx
  have h4 := when_bind h3
  have c1 := Bool.and_eq_true_iff.mp h4.1
  have c2 := Bool.and_eq_true_iff.mp c1.1
  have c3 := Bool.and_eq_true_iff.mp c2.1
  have g := G.boot "enumerate" (by decide)
  refine wpAny_Call_NameR (globB_sound G S.st (isGlobL_inv h1.1) g.1 (g.2.trans Boot.«enumerate») (PyProof.Rows.callWith_type1 ?_ (starEach_cons c1.2) rfl))
  rw [backTo_cons c1.2]
  have h5 : XPost H0 A XP env pa B P s₀ Q E ((evP n C false ρ p e).bind fun d p => Res.when (walkOk ρ d e) ((Res.ofOpt p (lstOf d)).bind fun xs p => f (xs.zipIdx.map fun (q : PyData × Nat) => PyData.tuple [.int (q.2 : Int), q.1]) p)) := by
    rw [hk]
    show XPost H0 A XP env pa B P s₀ Q E (Res.when (walkOk ρ (.list xs) e) _)
    rw [c3.2]
    exact h4.2
  exact Calls.spliced_cons (walk_go ev S h5 (fun d p h => (when_x h).1) fun v d p₂ s₁ S₁ rv h₁ => Calls.spliced_nil ((ofOpt_x (when_x h₁).2).elim fun ys z => enum_fin hh c2.2 k S₁ (lstOf_inv z.1 ▸ rv) z.2))

theorem forItems_sound {iter : Expr} (G : Glo H0 mg mb) (hh : A.handled = none) (ev : EvF prog w A H0 XP C env pa n)
    (S : SS H0 A env pa B P s₀ noX oa ρ p s) (h : XPost H0 A XP env pa B P s₀ Q E ((forItems (isTup tg) (evP n C false ρ) ρ p iter).bind f)) (k : ForK prog w A H0 XP env pa B P s₀ oa ρ Q E tg f K) :
    wpAny (model prog w) A (eval iter env) (fun xv s₁ => wpAny (model prog w) A (pyIter xv) K E s₁) E s := by
  unfold forItems at h
  cases hc : asCallN iter with
  | none => rw [hc] at h; exact for_plain hh ev S h k
  | some c =>
    rw [hc] at h
    dsimp only at h
    cases h1 : c.1 == ("range" : Str) with
    | true => rw [h1] at h; exact asCallN_inv hc ▸ for_range G hh ev S h1 h k
    | false =>
      rw [h1] at h
      dsimp only at h
      cases h2 : c.1 == ("enumerate" : Str) with
      | true => rw [h2] at h; exact asCallN_inv hc ▸ for_enum G hh ev S h2 h k
      | false => rw [h2] at h; exact for_plain hh ev S h k

theorem st_for {iter : Expr} {b : List Stmt} {pos : Pos} {f : Loc → Option Int → Res (Fl × Loc)} (G : Glo H0 mg mb) (hh : A.handled = none) (ev : EvF prog w A H0 XP C env pa n) (ihB : SXs prog w A H0 XP env pa b f) (S : SS H0 A env pa B P s₀ noX oa ρ p s)
    (h : XPost H0 A XP env pa B P s₀ Q E ((forItems (isTup tg) (evP n C false ρ) ρ p iter).bind fun items p => (forP (fun d ρ p => (Res.ofOpt p (bindP tg d ρ)).bind fun ρ p => f ρ p) items ρ p).calm)) : wpAny (model prog w) A (exec (.For tg iter b [] pos) env) Q E s := by
  refine wpAny_For (forItems_sound G hh ev S h fun items p₁ s₁ s₂ it fp wr T S₁ k₁ Tn ht h₁ => (calm_x h₁).elim fun q z => z.elim fun p' z => for_code hh ihB S₁ k₁ Tn ht z.1 fun g s' oa' S' hg => z.2 g s' oa' S' hg) fun xv => ?_
  cases iter with
  | Set a b c =>
    have h : XPost H0 A XP env pa B P s₀ Q E ((itemsR (evP n C false ρ) ρ p (.Set a b c)).bind _) := h
    unfold itemsR at h
    rw [evP_set] at h
    exact h.elim
  | _ => rfl
end
end Mine

namespace Mine
open PySem PySem.W PyProof.Rows

/-! an exception of the own class, in flight -/

/-- what the object holds -/
structure XHolds (C : Addr) (hb h : Heap) (ea : Addr) (oe : Obj) (vs : Array Value) (x : Exc) : Prop where
  fresh : ¬ Live hb ea
  at_ : h.get? ea = some oe
  cls : oe.cls = .ref C
  data : oe.data = .fields vs
  size : 1 < vs.size
  dict : ∃ dx mA, oe.dict = some dx ∧ h.Ns dx mA ∧ (∃ t, mA "code" = some (.int 1 t)) ∧ (∃ t, mA "value" = some (.str x.msg t)) ∧ ∃ v, mA "errorcode" = some v ∧ Reads h v x.code []
noncomputable def TraceAt (hb h : Heap) (ea : Addr) (vs : Array Value) (fl : Value) : Prop :=
  ∃ T oT ts, vs[1]? = some (.ref T) ∧ ¬ Live hb T ∧ T ≠ ea ∧ h.get? T = some oT ∧ oT.cls = .type "traceback" ∧ oT.data = .fields ts ∧ ts[3]? = some fl
noncomputable def XR (C : Addr) (hb h : Heap) (e : Value) (x : Exc) : Prop := ∃ ea oe vs, e = .ref ea ∧ XHolds C hb h ea oe vs x ∧ (vs[1]? = some .none ∨ TraceAt hb h ea vs .none)
/-- noted by the frame L, still held there -/
noncomputable def XN (C : Addr) (L : Addr) (hb h : Heap) (e : Value) (x : Exc) : Prop := ∃ ea oe vs, e = .ref ea ∧ XHolds C hb h ea oe vs x ∧ TraceAt hb h ea vs (rawInt L)

/-- what a raise changes of the objects that were there before it -/
noncomputable def Chg (hb h h' : Heap) : Prop := ∀ b o, h.get? b = some o → Live hb b → h'.get? b = some o ∨ (o.cls = .type "frame" ∧ ∃ sl, h'.get? b = some { o with slots := sl })
theorem Chg.keepS {P : Addr → Prop} {h₀ hb h h' : Heap} (k : KeepS P h₀ h) (c : Chg hb h h') (l : ∀ b, Live h₀ b → Live hb b) : KeepS P h₀ h' := by
  intro b o e
  have lb := l b ⟨o, e⟩
  rcases k b o e with x | ⟨f, sl, x⟩ | ⟨p, nt, o', x, c', n'⟩
  · rcases c b _ x lb with y | ⟨f, sl, y⟩
    · exact .inl y
    · exact .inr (.inl ⟨f, sl, y⟩)
  · rcases c b _ x lb with y | ⟨f', sl', y⟩
    · exact .inr (.inl ⟨f, _, y⟩)
    · exact .inr (.inl ⟨f, sl', y⟩)
  · rcases c b _ x lb with y | ⟨f', sl', y⟩
    · exact .inr (.inr ⟨p, nt, _, y, c', n'⟩)
    · exact .inr (.inr ⟨p, nt, _, y, c', n'⟩)
theorem Chg.trans {hb h h' h'' : Heap} (x : Chg hb h h') (y : Chg hb h' h'') : Chg hb h h'' := by
  intro b o e lb
  rcases x b o e lb with e' | ⟨f, sl, e'⟩
  · exact y b o e' lb
  · rcases y b _ e' lb with e'' | ⟨_, sl', e''⟩
    · exact .inr ⟨f, sl, e''⟩
    · exact .inr ⟨f, sl', e''⟩
theorem Chg.stays {H0 h₀ hb h h' : Heap} (st : H0.StaysIn h) (hl : ∀ b, Live H0 b → Live hb b) (nf : ∀ b o, H0.get? b = some o → h.get? b = some o → (∃ sl, h'.get? b = some { o with slots := sl }) → h'.get? b = some o) (c : Chg hb h h') : H0.StaysIn h' := by
  intro b o e
  rcases c b o (st b o e) (hl b ⟨o, e⟩) with x | ⟨_, sl, x⟩
  · exact x
  · exact nf b o e (st b o e) ⟨sl, x⟩

/-- what a step of the raise leaves alone -/
theorem XHolds.of {C : Addr} {hb h h' : Heap} {ea : Addr} {oe oe' : Obj} {vs vs' : Array Value} {x : Exc} (H : XHolds C hb h ea oe vs x) (he : h'.get? ea = some oe') (hc : oe'.cls = oe.cls) (hdict : oe'.dict = oe.dict) (hd : oe'.data = .fields vs') (hsz : 1 < vs'.size)
    (k : ∀ b o, h.get? b = some o → NonRec o → ∃ sl, h'.get? b = some { o with slots := sl }) (kt : ∀ b o, h.get? b = some o → (o.cls = .type "list" ∨ o.cls = .type "tuple" ∨ o.cls = .type "dict") → h'.get? b = some o) : XHolds C hb h' ea oe' vs' x := by
  obtain ⟨a, b, c, d, e, dx, mA, f, g, i, j, v, l, m⟩ := H
  refine ⟨a, he, hc.trans c, hd, hsz, dx, mA, hdict.trans f, ?_, i, j, v, l, reads_lists kt m⟩
  obtain ⟨o, es, ep, ho, hd, r⟩ := g
  obtain ⟨sl, q⟩ := k _ _ ho (nonRec_dict hd)
  exact ⟨_, es, ep, q, hd, r⟩

section
variable {M : Model} {A : Around} {E : Value → Shared → Prop} {s : Shared} {H0 : Heap} {C : Addr} {hb : Heap} {x : Exc} {env : Env} {outer : List Env} {L ea : Addr} {oe : Obj} {vs : Array Value} {Q : Unit → Shared → Prop}

theorem FF.frames_cls {h : Heap} : ∀ {l : List Env}, FF H0 h l → ∀ b ∈ l.filterMap (·.frame), ∃ o, h.get? b = some o ∧ o.cls = .type "frame" ∧ NonRec o ∧ H0.get? b = none := by
  intro l f b m
  obtain ⟨env, me, e⟩ := List.mem_filterMap.mp m
  obtain ⟨_, L, o, hL, h0, ho, hc, hn⟩ := f env me
  rw [hL] at e; cases e
  exact ⟨o, ho, hc, hn, h0⟩

theorem newEntry_X {head : Value} {hadNext : Bool} (hfr : A.frames = some (env :: outer)) (ff : FF H0 s.heap (env :: outer)) (hf : env.frame = some L) (st : H0.StaysIn s.heap) (hl : ∀ b, Live H0 b → Live hb b) (hbs : ∀ b, Live hb b → Live s.heap b) (H : XHolds C hb s.heap ea oe vs x)
    (h : ∀ h' oe' vs', XHolds C hb h' ea oe' vs' x → TraceAt hb h' ea vs' (rawInt L) → Chg hb s.heap h' → H0.StaysIn h' → Q () { s with heap := h' }) :
    wpAny M A (do let a ← frameOf env; let pl ← entryPlaceOf L hadNext; let b ← EntryCells.newEntry head a .none (rawInt L) .none pl; setField (.ref ea) 1 b) Q E s := by
  have he := H.at_
  have hd := H.data
  have hsz := H.size
  have hene : ea ∉ (env :: outer).filterMap (·.frame) := fun hm => by
    obtain ⟨o, ho, hc, _⟩ := ff.frames_cls _ hm
    rw [he] at ho; cases ho
    rw [H.cls] at hc; cases hc
  refine wpAny_bind (wpAny_frameOf_fun hfr ff.fun hf fun h₁ hs₁ => ?_)
  refine wpAny_bind (wpAny_entryPlaceOf fun pl hpl => ?_)
  unfold EntryCells.newEntry newFields
  refine wpAny_bind (wpAny_newObj_type ?_ (hpl.sizeOk5 _ _ _ _ _))
  have he₁ : h₁.get? ea = some oe := (hs₁.2.1 ea hene).trans he
  obtain ⟨ob, hob⟩ : ∃ ob : Obj, ob = { cls := .type "traceback", dict := none, data := .fields ([head, .ref L, .none, rawInt L, .none] ++ (if pl.isEmpty then List.replicate 6 Value.none else pl)).toArray } := ⟨_, rfl⟩
  rw [← hob]
  have hoc : ob.cls = .type "traceback" := by rw [hob]
  have hod : ob.data = .fields ([head, .ref L, .none, rawInt L, .none] ++ (if pl.isEmpty then List.replicate 6 Value.none else pl)).toArray := by rw [hob]
  have he₂ := Heap.get?_push_of_some (h := h₁) ob he₁
  have hT₂ := Heap.get?_push_size h₁ (o := ob) (Obj.isFreed_of_fields hod)
  clear hob
  refine wpAny_setField he₂ hd hsz ?_
  have hTe : h₁.objs.size ≠ ea := Nat.ne_of_gt (Heap.lt_size he₁)
  have hd₃ := Obj.data_mapFields hd (·.setIfInBounds 1 (Value.ref h₁.objs.size))
  have he₃ := Heap.get?_update_self (Obj.mapFields (·.setIfInBounds 1 (Value.ref h₁.objs.size))) he₂ (Obj.isFreed_of_fields hd₃)
  have hT₃ := (Heap.get?_update_other (h₁.push ob) (Obj.mapFields (·.setIfInBounds 1 (Value.ref h₁.objs.size))) (Ne.symm hTe)).trans hT₂
  have keep : ∀ b o, b ≠ ea → h₁.get? b = some o → ((h₁.push ob).update ea (Obj.mapFields (·.setIfInBounds 1 (Value.ref h₁.objs.size)))).get? b = some o := fun b o hbe hb =>
    (Heap.get?_update_other _ _ (Ne.symm hbe)).trans (Heap.get?_push_of_some _ hb)
  generalize (h₁.push ob).update ea (Obj.mapFields (·.setIfInBounds 1 (Value.ref h₁.objs.size))) = h₂ at *
  have old : ∀ b o, b ≠ ea → s.heap.get? b = some o → o.cls ≠ .type "frame" → h₁.get? b = some o := by
    intro b o hbe ho hc
    refine (hs₁.2.1 b fun hm => ?_).trans ho
    obtain ⟨o', ho', hc', _⟩ := ff.frames_cls _ hm
    rw [ho] at ho'; cases ho'; exact hc hc'
  have lT : ¬ Live hb h₁.objs.size := by
    intro l
    obtain ⟨o, ho⟩ := hbs _ l
    obtain ⟨sl, q⟩ := hs₁.2.2 _ _ ho
    exact Nat.lt_irrefl _ (Heap.lt_size q)
  refine h _ _ _ (H.of (vs' := vs.setIfInBounds 1 (Value.ref h₁.objs.size)) he₃ (Obj.cls_mapFields _ _) ?_ hd₃ (by simpa using hsz) ?_ ?_) ?_ ?_ ?_
  · obtain ⟨_, _, dt, _⟩ := oe
    obtain rfl : dt = .fields vs := hd
    rfl
  · intro b o ho hn
    obtain ⟨sl, q⟩ := hs₁.2.2 b o ho
    exact ⟨sl, keep b _ (fun e => by subst e; rw [he] at ho; cases ho; exact hn _ hd) q⟩
  · intro b o ho hc
    have hbe : b ≠ ea := fun e => by subst e; rw [he] at ho; cases ho; rw [H.cls] at hc; simp at hc
    exact keep b o hbe (old b o hbe ho (by rcases hc with hc | hc | hc <;> exact cls_ne hc (by decide)))
  · exact ⟨h₁.objs.size, _, _, by simp [hsz], lT, hTe, hT₃, hoc, hod, by first | (simp; done) | (rcases hpl with rfl | ⟨_, _, _, _, _, _, _, rfl⟩ <;> simp)⟩
  · intro b o ho lb
    have hbe : b ≠ ea := fun e => by subst e; exact H.fresh lb
    by_cases hc : o.cls = .type "frame"
    · obtain ⟨sl, q⟩ := hs₁.2.2 b o ho
      exact .inr ⟨hc, sl, keep b _ hbe q⟩
    · exact .inl (keep b o hbe (old b o hbe ho hc))
  · intro b o e
    have hbe : b ≠ ea := fun e' => by subst e'; exact H.fresh (hl _ ⟨o, e⟩)
    refine keep b o hbe ((hs₁.2.1 b fun hm => ?_).trans (st b o e))
    obtain ⟨_, _, _, _, h0⟩ := ff.frames_cls _ hm
    rw [h0] at e; cases e

theorem XHolds.tbk {h : Heap} {T : Addr} {oT : Obj} (H : XHolds C hb h ea oe vs x) (hT : h.get? T = some oT) (hc : oT.cls = .type "traceback") : T ≠ ea := fun e => by
  subst e; rw [H.at_] at hT; cases hT; rw [H.cls] at hc; cases hc

/-- a change of a traceback alone -/
theorem XHolds.tb {h h' : Heap} {T : Addr} {oT : Obj} {ts : Array Value} (H : XHolds C hb h ea oe vs x) (hT : h.get? T = some oT) (hc : oT.cls = .type "traceback") (hd : oT.data = .fields ts) (k : ∀ b, b ≠ T → h'.get? b = h.get? b) : XHolds C hb h' ea oe vs x := by
  refine H.of ((k _ (Ne.symm (H.tbk hT hc))).trans H.at_) rfl rfl H.data H.size ?_ ?_
  · intro b o ho hn
    exact ⟨o.slots, (k b fun e => by subst e; rw [hT] at ho; cases ho; exact hn _ hd).trans ho⟩
  · intro b o ho hc'
    refine (k b fun e => ?_).trans ho
    subst e; rw [hT] at ho; cases ho; rw [hc] at hc'; simp at hc'

theorem note_X {e : Value} (hfr : A.frames = some (env :: outer)) (ff : FF H0 s.heap (env :: outer)) (hf : env.frame = some L) (st : H0.StaysIn s.heap) (hl : ∀ b, Live H0 b → Live hb b) (hbs : ∀ b, Live hb b → Live s.heap b) (H : XR C hb s.heap e x)
    (h : ∀ h', XN C L hb h' e x → Chg hb s.heap h' → H0.StaysIn h' → Q () { s with heap := h' }) : wpAny M A (noteFrame e env) Q E s := by
  obtain ⟨ea, oe, vs, rfl, H, h1⟩ := H
  unfold noteFrame
  simp only [hf]
  rcases h1 with h1 | ⟨T, oT, ts, h1, lT, hTe, hT, hcT, hdT, h3⟩
  · refine wpAny_bind (wpAny_field H.at_ H.data h1 ?_)
    rw [if_neg (by decide)]
    exact newEntry_X hfr ff hf st hl hbs H fun h' oe' vs' a b c d => h h' ⟨ea, oe', vs', rfl, a, b⟩ c d
  · refine wpAny_bind (wpAny_field H.at_ H.data h1 ?_)
    rw [if_pos (show (Value.ref T != Value.none) = true from by simp)]
    refine wpAny_bind (wpAny_field hT hdT h3 ?_)
    rw [if_neg (show ¬ ((Value.none == rawInt L) = true) from by simp [rawInt])]
    refine wpAny_bind (wpAny_setField hT hdT (Array.getElem?_eq_some_iff.mp h3).1 ?_)
    have other : ∀ b, b ≠ T → (s.heap.update T (Obj.mapFields (·.setIfInBounds 3 Value.none))).get? b = s.heap.get? b := fun b hb => Heap.get?_update_other _ _ (Ne.symm hb)
    have hfrT : ∀ b o, s.heap.get? b = some o → NonRec o → b ≠ T := fun b o ho hn e => by subst e; rw [hT] at ho; cases ho; exact hn _ hdT
    have st' : H0.StaysIn (s.heap.update T (Obj.mapFields (·.setIfInBounds 3 Value.none))) := fun b o e => (other b fun q => by subst q; exact lT (hl _ ⟨o, e⟩)).trans (st b o e)
    have c' : Chg hb s.heap (s.heap.update T (Obj.mapFields (·.setIfInBounds 3 Value.none))) := fun b o e lb => .inl ((other b fun q => by subst q; exact lT lb).trans e)
    refine newEntry_X (s := { s with heap := s.heap.update T (Obj.mapFields (·.setIfInBounds 3 Value.none)) }) hfr ?_ hf st' hl ?_ (H.tb hT hcT hdT other) fun h' oe' vs' a b c d => h h' ⟨ea, oe', vs', rfl, a, b⟩ (c'.trans c) d
    · intro env' m
      obtain ⟨a, L, o, b, c, d, e, f⟩ := ff env' m
      exact ⟨a, L, o, b, c, (other L (hfrT L o d f)).trans d, e, f⟩
    · intro b lb
      obtain ⟨o, ho⟩ := hbs b lb
      exact ⟨o, (other b fun q => by subst q; exact lT lb).trans ho⟩

theorem flight_X {e : Value} (st : H0.StaysIn s.heap) (hl : ∀ b, Live H0 b → Live hb b) (H : XN C L hb s.heap e x)
    (h : ∀ h', XR C hb h' e x → Chg hb s.heap h' → H0.StaysIn h' → Q () { s with heap := h' }) : wpAny M A (setFlight e none) Q E s := by
  obtain ⟨ea, oe, vs, rfl, H, T, oT, ts, h1, lT, hTe, hT, hcT, hdT, h3⟩ := H
  have hsz3 : 3 < ts.size := (Array.getElem?_eq_some_iff.mp h3).1
  have other : ∀ b, b ≠ T → (s.heap.update T (Obj.mapFields (·.setIfInBounds 3 ((none : Option Addr).elim Value.none fun f => rawInt f)))).get? b = s.heap.get? b :=
    fun b hb => Heap.get?_update_other _ _ (Ne.symm hb)
  unfold setFlight
  refine wpAny_bind (wpAny_field H.at_ H.data h1 ?_)
  rw [if_pos (show (Value.ref T != Value.none) = true from by simp)]
  refine wpAny_setField hT hdT hsz3 (h _ ⟨ea, oe, vs, rfl, H.tb hT hcT hdT other, .inr ⟨T, _, _, h1, lT, hTe, Heap.get?_update_self _ hT (Obj.isFreed_of_fields (Obj.data_mapFields hdT _)), (Obj.cls_mapFields _ _).trans hcT, Obj.data_mapFields hdT _, by simp [hsz3]⟩⟩ ?_ ?_)
  · exact fun b o e lb => .inl ((other b fun q => by subst q; exact lT lb).trans e)
  · exact fun b o e => (other b fun q => by subst q; exact lT (hl _ ⟨o, e⟩)).trans (st b o e)

theorem Chg.live {hb h h' : Heap} (c : Chg hb h h') (hbs : ∀ b, Live hb b → Live h b) : ∀ b, Live hb b → Live h' b := by
  intro b lb
  obtain ⟨o, ho⟩ := hbs b lb
  rcases c b o ho lb with x | ⟨_, sl, x⟩
  · exact ⟨_, x⟩
  · exact ⟨_, x⟩

theorem leave_X {e : Value} (hfr : A.frames = some (env :: outer)) (ff : FF H0 s.heap (env :: outer)) (hf : env.frame = some L) (st : H0.StaysIn s.heap) (hl : ∀ b, Live H0 b → Live hb b) (hbs : ∀ b, Live hb b → Live s.heap b) (H : XR C hb s.heap e x)
    (h : ∀ h', XR C hb h' e x → Chg hb s.heap h' → H0.StaysIn h' → Q () { s with heap := h' }) : wpAny M A (leaving env e) Q E s := by
  unfold leaving
  refine wpAny_bind (note_X hfr ff hf st hl hbs H fun h₁ n c st₁ => ?_)
  exact flight_X (s := { s with heap := h₁ }) st₁ hl n fun h₂ n₂ c₂ st₂ => h h₂ n₂ (c.trans c₂) st₂
end
end Mine

namespace Mine
open PySem PySem.W PyProof.Rows
open Sem (wp)

/-! the entry of a call: the frame's class is told too -/

noncomputable def FrCls (h : Heap) (L : Addr) : Prop := ∃ o, h.get? L = some o ∧ o.cls = .type "frame" ∧ NonRec o
structure InCF (s₀ : Shared) (env : Env) (m cm : Str → Option Value) (s : Shared) : Prop where
  toC : InCallC s₀ env.locals m env.cells cm s
  cls : FrCls s.heap env.locals

section
variable {M : Model} {A : Around} {E : Value → Shared → Prop} {s₀ s : Shared} {m cm : Str → Option Value} {env : Env}

theorem stLF {n : Str} {v : Value} {Q : Unit → Shared → Prop} (x : InCF s₀ env m cm s) (hk : env.scope.kind = .function) (hl : env.kindOf n = some .local)
    (h : ∀ s', InCF s₀ env (fun y => if y = n then some v else m y) cm s' → Q () s') : wpAny M A (storeName env n v) Q E s := by
  obtain ⟨o, ho, hc, hn⟩ := x.cls
  have x := x.toC
  rw [storeName_local hl (by rw [hk]; rfl)]
  refine fun Γ pp _ => wp_nsSet_cls _ Γ _ pp s x.toInCall.ns ⟨o, ho, hc⟩ n v _ fun h' hn' hs' hcls => h _ ⟨⟨⟨?_, hn', fun b o e => ?_, x.toInCall.fresh⟩, fun k c hc => ?_, x.apart, x.above⟩, hcls⟩
  · obtain ⟨h₁, tk, rfl⟩ := x.toInCall.same
    exact ⟨h', _, rfl⟩
  · exact hs'.extBut b o (Nat.ne_of_lt (Nat.lt_of_lt_of_le (Heap.lt_size e) x.toInCall.fresh)) (x.toInCall.keep b o e)
  · exact (x.cell k c hc).sameBut hs' (Nat.ne_of_gt (x.above k c (mem_of_lookup hc)))

theorem stCF {n : Str} {c : Addr} {v : Value} {Q : Unit → Shared → Prop} (x : InCF s₀ env m cm s) (hk : env.scope.kind = .function) (hl : env.kindOf n = some .cell)
    (hc : env.cells.lookup n = some c)
    (h : ∀ s', InCF s₀ env m (fun y => if y = n then some v else cm y) s' → Q () s') : wpAny M A (storeName env n v) Q E s := by
  obtain ⟨o, ho, hcl, hn⟩ := x.cls
  have x := x.toC
  have hLc := x.above n c (mem_of_lookup hc)
  refine wpAny_storeName_cell hk hl hc (x.cell n c hc) fun h' hc' hs' => h _ ⟨⟨⟨?_, x.toInCall.ns.sameBut hs' (Nat.ne_of_lt hLc), fun b o e => ?_, x.toInCall.fresh⟩, fun k c' hk' => ?_, x.apart, x.above⟩, o, (hs'.2 _ (Nat.ne_of_lt hLc)).trans ho, hcl, hn⟩
  · obtain ⟨h₁, tk, rfl⟩ := x.toInCall.same
    exact ⟨h', _, rfl⟩
  · exact hs'.extBut b o (Nat.ne_of_lt (Nat.lt_trans (Nat.lt_of_lt_of_le (Heap.lt_size e) x.toInCall.fresh) hLc)) (x.toInCall.keep b o e)
  · by_cases hkn : k = n
    · subst hkn
      rw [hc] at hk'; cases hk'
      simpa using hc'
    · rw [if_neg hkn]
      exact (x.cell k c' hk').sameBut hs' fun e => hkn (name_of_addr x.apart (mem_of_lookup hk') (e ▸ mem_of_lookup hc))

theorem bindParamsF (f : Str × Value → PUnit → Sem (ForInStep PUnit)) (hf : ∀ n v u, f (n, v) u = (do storeName env n v; pure (.yield ⟨⟩))) (hk : env.scope.kind = .function) :
    ∀ (binds : List (Str × Value)) (m cm : Str → Option Value) (s : Shared) (Q : PUnit → Shared → Prop), InCF s₀ env m cm s →
      (∀ x ∈ binds, env.kindOf x.1 = some .local ∨ (env.kindOf x.1 = some .cell ∧ (env.cells.lookup x.1).isSome = true)) →
      (∀ s', InCF s₀ env (bindL env.kindOf binds m) (bindC env.kindOf binds cm) s' → Q ⟨⟩ s') → wpAny M A (forIn binds ⟨⟩ f) Q E s
  | [], m, cm, s, Q, x, _, h => by rw [List.forIn_nil]; exact wpAny_pure (h s x)
  | (n, v) :: r, m, cm, s, Q, x, hkind, h => by
    rw [List.forIn_cons, hf]
    have hr : ∀ y ∈ r, env.kindOf y.1 = some .local ∨ (env.kindOf y.1 = some .cell ∧ (env.cells.lookup y.1).isSome = true) := fun y hy => hkind y (List.mem_cons_of_mem _ hy)
    rcases hkind (n, v) List.mem_cons_self with hl | ⟨hl, hc⟩
    · refine wpAny_bind (wpAny_bind (stLF x hk hl fun s' x' => wpAny_pure (bindParamsF f hf hk r _ _ s' Q x' hr fun s'' x'' => h s'' ?_)))
      unfold bindL bindC; rw [if_pos hl, if_pos hl]; exact x''
    · obtain ⟨c, hc⟩ := Option.isSome_iff_exists.mp hc
      have hnl : ¬ env.kindOf n = some .local := by rw [hl]; decide
      refine wpAny_bind (wpAny_bind (stCF x hk hl hc fun s' x' => wpAny_pure (bindParamsF f hf hk r _ _ s' Q x' hr fun s'' x'' => h s'' ?_)))
      unfold bindL bindC; rw [if_neg hnl, if_neg hnl]; exact x''

theorem newEnvF {scope : Scope} {globals : Addr} {binds : List (Str × Value)} {qual : Str} {func : Option Addr} {code : Value} {builtins : Addr} {Q : Env → Shared → Prop}
    (hk : scope.kind = .function)
    (hkind : ∀ x ∈ binds, scope.names.lookup x.1 = some .local ∨ (scope.names.lookup x.1 = some .cell ∧ ((cellsFrom (s.heap.objs.size + 1) scope.names []).lookup x.1).isSome = true))
    (hQ : ∀ env, env = newEnv scope s.heap.objs.size globals (cellsFrom (s.heap.objs.size + 1) scope.names []) qual func code none builtins →
      ∀ s', InCF s env (bindL env.kindOf binds fun _ => none) (bindC env.kindOf binds fun _ => none) s' → Q env s') :
    wpAny M A (newFunctionEnv scope globals [] binds qual func code none builtins) Q E s := by
  simp only [newFunctionEnv, Option.isSome_none, Bool.false_eq_true, if_false]
  refine wpAny_bind (wpAny_alloc ?_)
  refine wpAny_bind (wpAny_layCells _ (fun name kind cells => by cases hkc : kind == NameKind.cell <;> simp [hkc]) _ _ _ _ ?_)
  have ok := cellsFrom_ok scope.names (s.heap.push { cls := .type "frame", data := .dict #[] }) (s.heap.objs.size + 1) [] ⟨fun _ _ hm => (nomatch hm), List.Pairwise.nil⟩ (by rw [Heap.size_push]; exact Nat.le_refl _)
  rw [Heap.size_push] at ok
  rw [show ({ s with heap := s.heap.push { cls := .type "frame", data := .dict #[] } } : Shared).heap.objs.size = s.heap.objs.size + 1 from Heap.size_push ..]
  refine wpAny_bind (bindParamsF (s₀ := s) (env := newEnv scope s.heap.objs.size globals (cellsFrom (s.heap.objs.size + 1) scope.names []) qual func code none builtins)
    _ (fun _ _ _ => rfl) hk binds (fun _ => none) (fun _ => none) _ _
    ⟨⟨⟨⟨_, _, rfl⟩, (Heap.Ns.new s.heap (.type "frame")).keeps (pushCells_keeps _ _), fun b o e => pushCells_keeps _ _ b o (Heap.get?_push_of_some _ e), Nat.le_refl _⟩,
      fun n c hc => (ok.empty n c (mem_of_lookup hc)).1, ok.apart, fun n c hm => (ok.empty n c hm).2⟩,
      ⟨_, pushCells_keeps _ _ _ _ (Heap.get?_push_size _ rfl), rfl, fun _ q => by cases q⟩⟩
    hkind fun s' x => wpAny_pure (hQ _ rfl s' x))
end

section
variable {prog : Program} {w : World} {A : Around} {s : Shared}

theorem call_fn {R : Result → Shared → Prop} {a : Addr} {o : Obj} {fd : FuncData} {body : List Stmt} {vals : List Value} {binds : List (Str × Value)}
    (hroom : A.depth < recursionLimit) (ho : s.heap.get? a = some o) (hdata : o.data = .func fd) (hlim : s.heap.NoLimit) (hcd : s.heap.CodeRec fd.code fd.qualname)
    (hbody : fd.body = .stmts body) (hbind : BindsTo s fd ⟨vals, []⟩ binds) (hclo : fd.closure = [])
    (hkind : ∀ x ∈ binds, fd.scope.names.lookup x.1 = some .local ∨ (fd.scope.names.lookup x.1 = some .cell ∧ ((cellsFrom (s.heap.objs.size + 1) fd.scope.names []).lookup x.1).isSome = true))
    (h : ∀ s₁, InCF s (callEnvC fd s.heap.objs.size a) (bindL (callEnvC fd s.heap.objs.size a).kindOf binds fun _ => none) (bindC (callEnvC fd s.heap.objs.size a).kindOf binds fun _ => none) s₁ →
      wpAny (model prog w) (A.deeper (callEnvC fd s.heap.objs.size a)) (execs body (callEnvC fd s.heap.objs.size a)) (fun f s' => R (.ok (.ret (match f with | .ret v => v | _ => .none))) s')
        (fun e s' => wpAny (model prog w) (A.deeper (callEnvC fd s.heap.objs.size a)) (leaving (callEnvC fd s.heap.objs.size a) e) (fun _ s'' => R (.error e) s'') (fun e' s'' => R (.error e') s'') s') s₁)
    (hco : fd.scope.isCoroutine = false := by rfl) (hgen : fd.scope.isGenerator = false := by rfl) (hk : fd.scope.kind = .function := by rfl) :
    codeAny (model prog w) A (.call (.ref a) ⟨vals, []⟩) R s := by
  refine codeAny_call_function hroom ho hdata hco hgen hbody hcd (hbind _ _ _ _ ?_)
  rw [hclo]
  refine newEnvF hk hkind fun env he s' x => ?_
  subst he
  exact ⟨hlim.keeps x.toC.toInCall.keep, codeAny_func (h s' x)⟩
end
end Mine

namespace Mine
open PySem PySem.W PyProof.Rows
open Builtin Builtin.ObjectAttr

/-! an attribute is set on an exception of an own class: where the object's dict lies -/

structure IX (C : Addr) (base h : Heap) (e : Addr) (mA : Str → Option Value) (vs : Array Value) : Prop where
  at_ : ∃ oe, h.get? e = some oe ∧ oe.cls = .ref C ∧ oe.data = .fields vs ∧ ((oe.dict = none ∧ ∀ n, mA n = none) ∨ ∃ d, oe.dict = some d ∧ d ≠ e ∧ base.get? d = none ∧ h.Ns1 d mA)
  keep : ∀ b o, b ≠ e → base.get? b = some o → h.get? b = some o

section
variable {prog : Program} {w : World} {A : Around} {E : Value → Shared → Prop} {h base : Heap} {g : Array GenState} {d : Drawn} {t : Nat} {os : OsState}
variable {nm q : Str} {C N x : Addr} {bs bm : List Value} {sn : List Str} {sub : List Value} {ab : Bool} {col : Option Bool} {dd : Option Addr} {k0 k1 k2 k3 k5 : Option Value} {B newId sa owner : String}
  {mN mA : Str → Option Value} {name : Str} {v : Value} {vs : Array Value}

theorem first_entry {tk : Tok} {o : Obj} {Q : Fin → Shared → Prop} (SF : StoreFacts B bm sa owner)
    (hC : h.get? C = some (excClassObj nm q C N bs bm true sn sub ab col dd k0 k1 k2 k3 k5 newId)) (hn : h.Ns N mN) (hna : mN name = none)
    (hB : typeLookup (.type B) name = pure none) (hx : h.get? x = some o) (hc : o.cls = .ref C) (hvs : o.data = .fields vs) (hdn : o.dict = none)
    (hq : ∀ h' tk' o', h'.get? x = some o' → o'.cls = .ref C → o'.data = .fields vs → o'.dict = some h.objs.size → h'.Ns1 h.objs.size (fun y => if y = name then some v else none) →
      (∀ b ob, b ≠ x → h.get? b = some ob → h'.get? b = some ob) → Q (.done (.ret .none)) ⟨h', g, d, tk', os⟩) :
    wpAny (model prog w) A (Builtin.«object.__setattr__» ⟨[.ref x, .str name tk, v], []⟩) Q E ⟨h, g, d, t, os⟩ := by
  have hnc : ∀ c, o.data ≠ .cls c := fun c e => by rw [hvs] at e; cases e
  have hpass := SF.passes (.ref x)
  unfold Builtin.«object.__setattr__»
  repeat (first | rw [refuse_eq] | (rw [refuseLoop_ref, hpass]) | (with_reducible refine wpAny_loadPart_at hx ?_; rw [hc]) | with_reducible refine wpAny_mroOf_exc hC ?_ | (with_reducible refine wpAny_typeLookup_exc hC hn SF.mro hB ?_; rw [hna]) | wp_step)
  rw [hdn, if_neg (by simp [typeHasDict])]
  split
  · rename_i hcd
    cases hcd
  split
  · rename_i c hcd
    exact absurd hcd (hnc c)
  · have hx₁ : (h.push { cls := .type "dict", data := .dict #[] }).get? x = some o := Heap.get?_push_of_some _ hx
    have hxs : x ≠ h.objs.size := Nat.ne_of_lt (Heap.lt_size hx)
    refine wpAny_bind (wpAny_alloc' ?_)
    refine wpAny_bind (wpAny_update' hx₁ ?_)
    refine wpAny_pure ?_
    have hgd : ((h.push { cls := .type "dict", data := .dict #[] }).update x fun o => { cls := o.cls, dict := some h.objs.size, data := o.data, slots := o.slots }).get? h.objs.size
        = some { cls := .type "dict", data := .dict #[] } :=
      (Heap.get?_update_ne _ _ _ _ hxs.symm).trans (Heap.get?_push_at rfl rfl)
    have hnd : ((h.push { cls := .type "dict", data := .dict #[] }).update x fun o => { cls := o.cls, dict := some h.objs.size, data := o.data, slots := o.slots }).Ns h.objs.size (fun _ => none) :=
      ⟨_, #[], _, hgd, rfl, fun e he => absurd he (by simp), fun _ => rfl⟩
    show wpAny _ _ (storeInDict h.objs.size (.str name tk) name v) _ _ _
    unfold storeInDict newKeyGuard
    refine wpAny_bind (wpAny_pure (wpAny_bind (wpAny_nsSet1 (Heap.Ns1.of_empty hnd) fun h' hn' hs => ?_)))
    obtain ⟨oD, esD, epD, hoD, hdD, hcD⟩ := hn'.count (Within.cons name v Within.nil)
    refine wpAny_bind (wpAny_lookBehind hoD (by rw [hdD]; exact pastItsLine_dict (Nat.le_trans hcD (by rw [List.length_cons, List.length_nil, sizeLine_eq]; lia))) ?_)
    wp_walk
    have hx' : h'.get? x = some { cls := o.cls, dict := some h.objs.size, data := o.data, slots := o.slots } := by
      refine (hs.2 x hxs).trans (Heap.get?_update_self _ hx₁ ?_)
      have hfr := (Heap.get?_some_iff.mp hx).2
      obtain ⟨oc, od, odt, osl⟩ := o
      obtain rfl : odt = .fields vs := hvs
      exact hfr
    refine hq h' _ _ hx' hc hvs rfl hn' fun b ob hbx hb => ?_
    exact (hs.2 b (Nat.ne_of_lt (Heap.lt_size hb))).trans ((Heap.get?_update_ne _ _ _ _ hbx).trans (Heap.get?_push_of_some _ hb))

theorem first_attr {o : Obj} {Q : Unit → Shared → Prop} (SF : StoreFacts B bm sa owner)
    (hC : h.get? C = some (excClassObj nm q C N bs bm true sn sub ab col dd k0 k1 k2 k3 k5 newId)) (hn : h.Ns N mN) (hns : mN "__setattr__" = none) (hna : mN name = none)
    (hB : typeLookup (.type B) name = pure none) (hx : h.get? x = some o) (hc : o.cls = .ref C) (hvs : o.data = .fields vs) (hdn : o.dict = none)
    (hq : ∀ h' tk' o', h'.get? x = some o' → o'.cls = .ref C → o'.data = .fields vs → o'.dict = some h.objs.size → h'.Ns1 h.objs.size (fun y => if y = name then some v else none) →
      (∀ b ob, b ≠ x → h.get? b = some ob → h'.get? b = some ob) → Q () ⟨h', g, d, tk', os⟩) :
    wpAny (model prog w) A (setAttr (.ref x) name v) Q E ⟨h, g, d, t, os⟩ := by
  have f3 := SF.slot.bind (.ref x)
  unfold setAttr callSpecial? specialOf
  repeat (any_goals (first | assumption | (with_reducible refine wpAny_loadPart_at hx ?_; rw [hc]) | (with_reducible refine wpAny_typeLookup_exc hC hn SF.mro SF.slot.lookup ?_; rw [hns]) | wp_step))
  refine codeAny_call_builtin SF.slot.plain SF.entry (wpAny_check_sa SF hC hx hc (first_entry SF hC hn hna hB hx hc hvs hdn fun h' tk' o' a b c d e f => ?_))
  repeat (any_goals (first | assumption | wp_step))
  exact hq h' tk' o' a b c d e f

/-- one attribute more -/
theorem put_attr {Q : Unit → Shared → Prop} {ns : List Str} (SF : StoreFacts B bm sa owner)
    (hC : base.get? C = some (excClassObj nm q C N bs bm true sn sub ab col dd k0 k1 k2 k3 k5 newId)) (hn : base.Ns N mN) (hns : mN "__setattr__" = none) (hna : mN name = none)
    (hB : typeLookup (.type B) name = pure none) (hxC : x ≠ C) (hxN : x ≠ N) (I : IX C base h x mA vs)
    (hq : ∀ h' tk', IX C base h' x (fun y => if y = name then some v else mA y) vs → Q () ⟨h', g, d, tk', os⟩) (hw : Within mA ns := by within_ways) (hsz : ns.length ≤ sizeLine := by size_fits) :
    wpAny (model prog w) A (setAttr (.ref x) name v) Q E ⟨h, g, d, t, os⟩ := by
  obtain ⟨⟨oe, hx, hc, hd, hdict⟩, hk⟩ := I
  have hC' := hk _ _ (Ne.symm hxC) hC
  have hn' : h.Ns N mN := by obtain ⟨o, es, ep, e, r⟩ := hn; exact ⟨o, es, ep, hk _ _ (Ne.symm hxN) e, r⟩
  rcases hdict with ⟨hdn, hm⟩ | ⟨dx, hdx, hne, hdn, hns1⟩
  · refine first_attr SF hC' hn' hns hna hB hx hc hd hdn fun h' tk' o' a b c e f k => hq h' tk' ⟨⟨o', a, b, c, .inr ⟨_, e, Ne.symm (Nat.ne_of_lt (Heap.lt_size hx)), ?_, ?_⟩⟩, ?_⟩
    · cases hb : base.get? h.objs.size with
      | none => rfl
      | some o =>
        by_cases he : h.objs.size = x
        · exact absurd (Heap.lt_size hx) (by rw [he]; exact Nat.lt_irrefl _)
        · exact absurd (Heap.lt_size (hk _ _ he hb)) (Nat.lt_irrefl _)
    · have : (fun y => if y = name then some v else mA y) = fun y => if y = name then some v else none := by funext y; by_cases hy : y = name <;> simp [hy, hm]
      rw [this]; exact f
    · exact fun b o hb e => k b o hb (hk b o hb e)
  · have hI : h.Inst x C mA := ⟨oe, hx, hc, (fun c e => by rw [hd] at e; cases e), .inr ⟨dx, hdx, hne, hns1⟩⟩
    refine store_attr (ns := ns) SF hC' hn' hns hna hB hxC hI (fun h' tk' I' k k' => hq h' tk' ?_) hw hsz
    obtain ⟨o', a, b, c, r⟩ := I'
    obtain ⟨o₁, a', b', c', _, e'⟩ := k' _ hx
    rw [a] at a'; cases a'
    have hd' := e' dx hdx
    rcases r with ⟨r, _⟩ | ⟨d', r, r1, r2⟩
    · rw [hd'] at r; cases r
    · rw [hd'] at r; cases r
      refine ⟨⟨o', a, b, c'.trans hd, .inr ⟨dx, hd', hne, hdn, r2⟩⟩, fun b o hb e => k b o hb ?_ (hk b o hb e)⟩
      intro o₀ dx' ho₀ hdx' q
      rw [hx] at ho₀; cases ho₀
      rw [hdx] at hdx'; cases hdx'
      subst q; rw [hdn] at e; cases e
end
end Mine

namespace Mine
open PySem PySem.W PyProof.Rows

/-! the body of the class's __init__, read as a list of stores -/

noncomputable def quietNames : List Str := ["code", "value", "errorcode", "level", "ret", "info", "is_noted", "line", "extra"]
theorem quiet_look : ∀ a ∈ quietNames, typeLookup (.type "Exception") a = pure none := by
  intro a ha
  simp only [quietNames, List.mem_cons, List.not_mem_nil, or_false] at ha
  rcases ha with rfl | rfl | rfl | rfl | rfl | rfl | rfl | rfl | rfl <;> (rw [typeLookup_type, builtinLookup_eq_fast]; kernel_rfl)

/-- what each attribute is: a parameter's value, or some value or other -/
noncomputable abbrev Attrs := List (Str × Option Str)
noncomputable def plainConst : Const → Bool
  | .none => true
  | .bool _ => true
  | .int _ => true
  | .str _ => true
  | _ => false
noncomputable def attrOk (ks : Str → Option NameKind) (x a : Str) : Bool := x == ("self" : Str) && quietNames.contains a && ks x == some .local
noncomputable def srcOf (ks : Str → Option NameKind) (e : Expr) : Option (Option Str) := match asName e with
  | some y => only (ks y.1 == some .local && !(y.1 == ("__debug__" : Str))) (some (some y.1))
  | none => match asConst e with
    | some c => only (plainConst c.1) (some none)
    | none => (asLst e).bind fun l => only l.1.isEmpty (some none)
noncomputable def superOk (ks : Str → Option NameKind) (a : Str × Pos × Str × Pos) (x y : Str) (cp : Pos) : Bool := a.2.2.2.endLine == cp.line && a.1 == ("Exception" : Str) && a.2.2.1 == ("__init__" : Str) && x == ("self" : Str) && y == ("value" : Str) && ks a.1 == some .globalImplicit && ks x == some .local && ks y == some .local
noncomputable def superP (ks : Str → Option NameKind) (v : Expr) : Bool := (asCall v).any fun c => (asNameAttr c.1).any fun a => (two c.2.1).any fun xy => (asName xy.1).any fun x => (asName xy.2).any fun y => superOk ks a x.1 y.1 c.2.2
noncomputable def putP (ks : Str → Option NameKind) (ts : List Expr) (e : Expr) : Option (Str × Option Str) := (one ts).bind fun t => (asNameAttr t).bind fun a => (srcOf ks e).bind fun s => only (attrOk ks a.1 a.2.2.1) (some (a.2.2.1, s))
noncomputable def initStep (ks : Str → Option NameKind) (acc : Attrs) (s : Stmt) : Option Attrs := match asExp s with
  | some v => only (superP ks v.1) (some acc)
  | none => (asAsg s).bind fun a => (putP ks a.1 a.2.1).bind fun q => some (q :: acc)
theorem asExp_inv {s : Stmt} {a : Expr × Pos} (h : asExp s = some a) : s = .Expr a.1 a.2 := val_inv (o := (sw s).ex) h
theorem asAsg_inv {s : Stmt} {a : List Expr × Expr × Pos} (h : asAsg s = some a) : s = .Assign a.1 a.2.1 a.2.2 := val_inv (o := (sw s).ag) h
noncomputable def initP (ks : Str → Option NameKind) : List Stmt → Attrs → Option Attrs
  | [], acc => some acc
  | s :: r, acc => (initStep ks acc s).bind (initP ks r)

theorem asAttr_inv {e : Expr} {a : Expr × Str × Pos} (h : asAttr e = some a) : e = .Attribute a.1 a.2.1 a.2.2 := val_inv (o := (vw e).at_) h
theorem asNameAttr_inv {e : Expr} {a : Str × Pos × Str × Pos} (h : asNameAttr e = some a) : e = .Attribute (.Name a.1 a.2.1) a.2.2.1 a.2.2.2 := by
  obtain ⟨b, hb, h⟩ := bind_inv h
  obtain ⟨x, hx, h⟩ := bind_inv h
  exact Option.some.inj h ▸ (asAttr_inv hb).trans (by rw [asName_inv hx])

inductive IsC (h : Heap) (C N : Addr) : Prop
  | mk (nm q : Str) (bs : List Value) (sn : List Str) (sub : List Value) (ab : Bool) (col : Option Bool) (dd : Option Addr) (k0 k1 k2 k3 k5 : Option Value) : h.get? C = some (excClassObj nm q C N bs [.type "Exception", .type "BaseException", .type "object"] true sn sub ab col dd k0 k1 k2 k3 k5 "Exception.__new__") → IsC h C N
structure IE (mg mb : Str → Option Value) (s₁ : Shared) (env : Env) (m : Str → Option Value) (e C N : Addr) (mN : Str → Option Value) : Prop where
  kind : env.scope.kind = .function
  gl : env.globals = mainGlobals
  bl : env.builtins = builtinsNs
  ns : s₁.heap.Ns env.locals m
  apart : e ≠ env.locals ∧ e ≠ C ∧ e ≠ N ∧ e ≠ mainGlobals ∧ e ≠ builtinsNs
  self_ : m "self" = some (.ref e)
  loc : ∀ y, env.kindOf y = some .local → ∃ v, m y = some v
  g : s₁.heap.Ns mainGlobals mg
  b : s₁.heap.Ns builtinsNs mb
  exc : mg "Exception" = none ∧ mb "Exception" = some (.type "Exception")
  cls : IsC s₁.heap C N
  nsN : s₁.heap.Ns N mN
  quiet : mN "__setattr__" = none ∧ ∀ a ∈ quietNames, mN a = none

structure AttrsAt (m : Str → Option Value) (acc : Attrs) (mA : Str → Option Value) : Prop where
  no : ∀ a, acc.lookup a = none → mA a = none
  yes : ∀ a y, acc.lookup a = some (some y) → mA a = m y
  within : ∀ a, mA a ≠ none → a ∈ acc.map (·.1)
structure IS (s₁ : Shared) (m : Str → Option Value) (e C : Addr) (acc : Attrs) (s : Shared) : Prop where
  shape : ∃ h tk, s = { s₁ with heap := h, toks := tk }
  ix : ∃ mA vs, IX C s₁.heap s.heap e mA vs ∧ (vs.size = 6 ∧ vs[1]? = some .none) ∧ AttrsAt m acc mA
theorem AttrsAt.cons {m mA : Str → Option Value} {acc : Attrs} {a : Str} {src : Option Str} {v : Value} (h : AttrsAt m acc mA) (hv : ∀ y, src = some y → m y = some v) : AttrsAt m ((a, src) :: acc) (fun y => if y = a then some v else mA y) := by
  have miss : ∀ b, b ≠ a → ((a, src) :: acc).lookup b = acc.lookup b := fun b hb => by rw [List.lookup_cons, beq_eq_false_iff_ne.mpr hb]
  have hit : ((a, src) :: acc).lookup a = some src := by rw [List.lookup_cons, beq_self_eq_true]
  refine ⟨fun b hb => ?_, fun b y hb => ?_, fun b hb => ?_⟩
  · by_cases e : b = a
    · rw [e, hit] at hb; cases hb
    · exact (if_neg e).trans (h.no b (miss b e ▸ hb))
  · by_cases e : b = a
    · rw [e, hit] at hb; cases hb; exact (if_pos e).trans (hv y rfl).symm
    · exact (if_neg e).trans (h.yes b y (miss b e ▸ hb))
  · by_cases e : b = a
    · rw [e]; exact .head _
    · exact .tail _ (h.within b fun q => hb ((if_neg e).trans q))

section
variable {prog : Program} {w : World} {A : Around} {E : Value → Shared → Prop} {mg mb : Str → Option Value} {s₁ s : Shared} {env : Env} {m mN : Str → Option Value} {e C N : Addr} {acc : Attrs}

theorem IX.ns {base h : Heap} {x a : Addr} {mA m : Str → Option Value} {vs : Array Value} (I : IX C base h x mA vs) (hn : base.Ns a m) (ha : x ≠ a) : h.Ns a m := by
  obtain ⟨o, es, ep, ho, hd, r⟩ := hn
  exact ⟨o, es, ep, I.keep _ _ (Ne.symm ha) ho, hd, r⟩

theorem is_name {M : Model} {y : Str} {pos : Pos} {Q : Value → Shared → Prop} (G : IE mg mb s₁ env m e C N mN) (S : IS s₁ m e C acc s) (hy : env.kindOf y = some .local) (hd : (y == ("__debug__" : Str)) = false) (h : ∀ v, m y = some v → Q v s) : wpAny M A (eval (.Name y pos) env) Q E s := by
  obtain ⟨mA, vs, I, _⟩ := S.ix
  obtain ⟨v, hv⟩ := G.loc y hy
  exact wpAny_Name (wpAny_loadName_local G.kind hy (I.ns G.ns G.apart.1) hv (h v hv)) hd

theorem is_self {M : Model} {x : Str} {pos : Pos} {Q : Value → Shared → Prop} (G : IE mg mb s₁ env m e C N mN) (S : IS s₁ m e C acc s) (hx : x = "self") (hl : env.kindOf x = some .local) (h : Q (.ref e) s) : wpAny M A (eval (.Name x pos) env) Q E s := by
  subst hx
  refine is_name G S hl (by decide) fun v hv => ?_
  rw [G.self_] at hv; cases hv; exact h

theorem IS.toks {h : Heap} {k : Nat} (S : IS s₁ m e C acc s) (hh : s.heap = h) : IS s₁ m e C acc { s with heap := h, toks := k } := by
  subst hh
  obtain ⟨⟨h, t, rfl⟩, r⟩ := S
  exact ⟨⟨h, k, rfl⟩, r⟩

/-- the attribute is stored -/
theorem is_put {a : Str} {v : Value} {src : Option Str} {Q : Unit → Shared → Prop} (G : IE mg mb s₁ env m e C N mN) (S : IS s₁ m e C acc s) (ha : a ∈ quietNames) (hv : ∀ y, src = some y → m y = some v) (hlen : acc.length ≤ 1000)
    (h : ∀ s', IS s₁ m e C ((a, src) :: acc) s' → Q () s') : wpAny (model prog w) A (setAttr (.ref e) a v) Q E s := by
  refine Classical.byContradiction fun hno => ?_
  obtain ⟨⟨hh, tk, rfl⟩, mA, vs, I, sz, n⟩ := S
  obtain ⟨nm, q, bs, sn, sub, ab, col, dd, k0, k1, k2, k3, k5, hC⟩ := G.cls
  exact hno (put_attr (ns := acc.map (·.1)) PySem.F.store_Exception hC G.nsN G.quiet.1 (G.quiet.2 a ha) (quiet_look a ha) G.apart.2.1 G.apart.2.2.1 I (fun h' tk' I' => h _ ⟨⟨h', tk', rfl⟩, _, vs, I', sz, n.cons hv⟩) (fun b hb => n.within b hb) (by rw [List.length_map]; exact Nat.le_trans hlen (by rw [sizeLine_eq]; decide)))

theorem found_init : findCls [] (.type "Exception") (.type "type") "__init__" = some (.val (.builtin "Exception.__init__")) := by kernel_rfl
theorem type_exc : typeOf (.type "Exception") = pure (.type "type") := by kernel_rfl

theorem put_args {v : Value} {Q : Value → Shared → Prop} (G : IE mg mb s₁ env m e C N mN) (S : IS s₁ m e C acc s) (h : ∀ s', IS s₁ m e C acc s' → Q .none s') : wpAny (model prog w) A (call (.builtin "Exception.__init__") [.ref e, v]) Q E s := by
  refine Classical.byContradiction fun hno => ?_
  obtain ⟨⟨hh, tk, rfl⟩, mA, vs, I, ⟨sz, h1⟩, nn⟩ := S
  obtain ⟨nm, q, bs, sn, sub, ab, col, dd, k0, k1, k2, k3, k5, hC⟩ := G.cls
  have F := PySem.F.excBase_Exception
  obtain ⟨⟨oe, he, hc, hd, hdict⟩, hk⟩ := I
  have hC' := hk _ _ (Ne.symm G.apart.2.1) hC
  refine hno (wpAny_call (codeAny_call_builtin F.init.plain F.initEntry (wpAny_check_init_sub F hC' he hc ?_)))
  unfold Builtin.«BaseException.__init__»
  dsimp only
  rw [if_neg (by simp)]
  unfold newTuple Builtin.BaseException.bexcPut
  have hsz : 0 < vs.size := by rw [sz]; decide
  have he₁ := Heap.get?_push_of_some (h := hh) { cls := .type "tuple", data := .seq [v].toArray } he
  have he₂ := Heap.get?_update_self (Obj.mapFields (·.setIfInBounds 0 (.ref hh.objs.size))) he₁ (Obj.isFreed_of_fields (Obj.data_mapFields hd _))
  have keep : ∀ b o, b ≠ e → hh.get? b = some o → ((hh.push { cls := .type "tuple", data := .seq [v].toArray }).update e (Obj.mapFields (·.setIfInBounds 0 (.ref hh.objs.size)))).get? b = some o := fun b o hbe hb => by
    rw [Heap.get?_update_other _ _ (Ne.symm hbe)]
    exact Heap.get?_push_of_some _ hb
  have fin : IS s₁ m e C acc { s₁ with heap := (hh.push { cls := .type "tuple", data := .seq [v].toArray }).update e (Obj.mapFields (·.setIfInBounds 0 (.ref hh.objs.size))), toks := tk } := by
    refine ⟨⟨_, _, rfl⟩, mA, vs.setIfInBounds 0 (.ref hh.objs.size), ⟨⟨_, he₂, (Obj.cls_mapFields _ _).trans hc, Obj.data_mapFields hd _, ?_⟩, fun b o hb e => keep b o hb (hk b o hb e)⟩, ⟨by simpa using sz, ?_⟩, nn⟩
    · have hdm : (Obj.mapFields (·.setIfInBounds 0 (.ref hh.objs.size)) oe).dict = oe.dict := by
        obtain ⟨_, _, dt, _⟩ := oe
        obtain rfl : dt = .fields vs := hd
        rfl
      rw [hdm]
      rcases hdict with x | ⟨d, a, b, c, z⟩
      · exact .inl x
      · exact .inr ⟨d, a, b, c, z.at fun o e => keep d o b e⟩
    · rw [Array.getElem?_setIfInBounds_ne (by decide)]; exact h1
  refine wpAny_bind (wpAny_newObj_type (wpAny_bind (wpAny_bind (wpAny_field he₁ hd (Array.getElem?_eq_getElem hsz) (wpAny_bind (wpAny_setField he₁ hd hsz ?_))))) (by show [v].toArray.size ≤ sizeLine; rw [sizeLine_eq]; show 1 ≤ 16777216; decide))
  split
  · exact wpAny_letGo (wpAny_pure (h _ fin))
  · exact wpAny_pure (wpAny_pure (h _ fin))
end
end Mine

namespace Mine
open PySem PySem.W PyProof.Rows
section
variable {prog : Program} {w : World} {A : Around} {E : Value → Shared → Prop} {mg mb : Str → Option Value} {s₁ s : Shared} {env : Env} {m mN : Str → Option Value} {e C N : Addr} {acc : Attrs}

theorem exc_stub : Manifest.isStub "Exception" = false := by decide +kernel
theorem exc_handed : handedIn (.builtin "Exception.__init__") = true := by decide +kernel

theorem no_frag (h : Heap) : Frag.In ([] : Frag) h := by
  intro a o z
  exact absurd z (by intro q; cases q)
theorem no_heap {h : Heap} {L : Addr} {m : Str → Option Value} (hn : h.Ns L m) : Fr { objs := #[] } L h m := ⟨hn, (fun b o z => absurd (Heap.lt_size z) (Nat.not_lt_zero _)), Nat.zero_le _⟩
theorem get_init {pl : Sem Bool} {L : Addr} {Q : Value × List Value → Shared → Prop} (hn : s.heap.Ns L m) (h : Q (.builtin "Exception.__init__", []) { s with toks := s.toks + 1 }) : wpAny (model prog w) A (getMethod (.type "Exception") "__init__" pl) Q E s :=
  method_type (no_heap hn) (no_frag _) type_exc exc_stub found_init exc_handed h
end
end Mine

namespace Mine
open PySem PySem.W PyProof.Rows
section
variable {prog : Program} {w : World} {A : Around} {E : Value → Shared → Prop} {mg mb : Str → Option Value} {s₁ s : Shared} {env : Env} {m mN : Str → Option Value} {e C N : Addr} {acc : Attrs}

theorem is_super_call {f x y mm : Str} {fp ap xp yp cp : Pos} {Q : Value → Shared → Prop} (G : IE mg mb s₁ env m e C N mN) (S : IS s₁ m e C acc s) (hline : (ap.endLine == cp.line) = true) (hf : f = "Exception") (hm : mm = "__init__") (hx : x = "self") (hy : (y == ("__debug__" : Str)) = false)
    (kf : env.kindOf f = some .globalImplicit) (kx : env.kindOf x = some .local) (ky : env.kindOf y = some .local) (h : ∀ s', IS s₁ m e C acc s' → Q .none s') :
    wpAny (model prog w) A (eval (.Call (.Attribute (.Name f fp) mm ap) [.Name x xp, .Name y yp] [] cp) env) Q E s := by
  obtain ⟨mA, vs, I, _⟩ := id S.ix
  have hg := I.ns G.g G.apart.2.2.2.1
  have hb := I.ns G.b G.apart.2.2.2.2
  have hpos : methodCallPos true (.Name f fp) env ap cp = pure cp := by unfold methodCallPos; simp [hline]
  have hform : methodCallForm ([Expr.Name x xp, Expr.Name y yp].length + ([] : List Keyword).length) (backTo cp (starEach [Expr.Name x xp, Expr.Name y yp] env)) (backToKw cp (keywordEach [] env)) = true := rfl
  rw [arm_eval_Call]
  have hd : (f == ("__debug__" : Str)) = false := by rw [hf]; decide
  have step : wpAny (model prog w) A (eval (.Name f fp) env) (fun v s' => v = .type "Exception" ∧ s' = s) E s :=
    Calls.Name_function_global G.kind kf (Calls.loadGlobal_builtin (mg := mg) (mb := mb) (by rw [G.gl]; exact hg) (by rw [hf]; exact G.exc.1) (by rw [G.bl]; exact hb) (by rw [hf]; exact G.exc.2) ⟨rfl, rfl⟩) hd
  refine wpAny_bind (m := attributeBase (.Name f fp) mm env (eval (.Name f fp) env)) (wpAny_mono step ?_ fun _ _ z => z)
  rintro v s' ⟨rfl, rfl⟩
  refine wpAny_bind (wpAny_standAt ?_)
  unfold methodCall
  rw [hform]
  have S1 : IS s₁ m e C acc { s' with toks := s'.toks + 1 } := S.toks rfl
  have hself : (x == ("__debug__" : Str)) = false := by rw [hx]; decide
  subst hm
  refine wpAny_bind (wpAny_holding (get_init (I.ns G.ns G.apart.1) ?_))
  refine wpAny_bind (wpAny_of_eq hpos ?_)
  refine Calls.callWith_builtin rfl (Calls.evalArgs_plain (Calls.spliced_cons (is_self G S1 hx kx (Calls.spliced_cons (is_name G S1 ky hy fun v hv => Calls.spliced_nil ?_)))))
  exact put_args G S1 h
end
end Mine

set_option linter.all false
namespace Mine
open PySem PySem.W PyProof.Rows
section
variable {prog : Program} {w : World} {A : Around} {E : Value → Shared → Prop} {mg mb : Str → Option Value} {s₁ s : Shared} {env : Env} {m mN : Str → Option Value} {e C N : Addr} {acc : Attrs}

theorem is_assign {x a : Str} {xp ap pos : Pos} {val : Expr} {src : Option Str} {Q : Flow → Shared → Prop} (G : IE mg mb s₁ env m e C N mN) (hx : attrOk env.kindOf x a = true) (hlen : acc.length ≤ 1000)
    (hs : swapsWith val (some (.Attribute (.Name x xp) a ap)) pos.line env = pure false)
    (hv : wpAny (model prog w) A (eval val env) (fun v s' => IS s₁ m e C acc s' ∧ ∀ y, src = some y → m y = some v) E s) (h : ∀ s', IS s₁ m e C ((a, src) :: acc) s' → Q .next s') :
    wpAny (model prog w) A (exec (.Assign [.Attribute (.Name x xp) a ap] val pos) env) Q E s := by
  unfold attrOk at hx
  rw [Bool.and_eq_true, Bool.and_eq_true] at hx
  obtain ⟨⟨hx, ha⟩, hk⟩ := hx
  refine plainObj_wpAny_Assign_Attribute (wpAny_mono hv (fun v s' ⟨S, hv⟩ => ?_) fun _ _ z => z) hs
  refine is_self G S (eq_of_beq hx) (eq_of_beq hk) ?_
  exact is_put G S (List.contains_iff_mem.mp ha) hv hlen h

theorem is_const {M : Model} {c : Const} {k : Nat} {pos : Pos} (S : IS s₁ m e C acc s) (hc : plainConst c = true) : wpAny M A (eval (.Constant c k pos) env) (fun v s' => IS s₁ m e C acc s' ∧ ∀ y, (none : Option Str) = some y → m y = some v) E s := by
  cases c <;> first
    | (cases hc; done)
    | exact wpAny_Constant_none ⟨S, fun _ q => by cases q⟩
    | exact wpAny_Constant_bool ⟨S, fun _ q => by cases q⟩
    | exact wpAny_Constant_int ⟨S.toks rfl, fun _ q => by cases q⟩
    | exact Calls.Constant_str ⟨S.toks rfl, fun _ q => by cases q⟩

theorem IS.push {o : Obj} (S : IS s₁ m e C acc s) : IS s₁ m e C acc { s with heap := s.heap.push o } := by
  obtain ⟨⟨h, t, rfl⟩, mA, vs, ⟨⟨oe, he, hc, hd, hdict⟩, hk⟩, r⟩ := S
  refine ⟨⟨_, t, rfl⟩, mA, vs, ⟨⟨oe, Heap.get?_push_of_some _ he, hc, hd, ?_⟩, fun b o hb z => Heap.get?_push_of_some _ (hk b o hb z)⟩, r⟩
  rcases hdict with x | ⟨d, a, b, c, z⟩
  · exact .inl x
  · exact .inr ⟨d, a, b, c, z.at fun o e => Heap.get?_push_of_some _ e⟩

theorem is_list {M : Model} {pos : Pos} (S : IS s₁ m e C acc s) : wpAny M A (eval (.List [] pos) env) (fun v s' => IS s₁ m e C acc s' ∧ ∀ y, (none : Option Str) = some y → m y = some v) E s := by
  rw [arm_eval_List]
  refine wpAny_bind (wpAny_standAt (wpAny_bind (Calls.spliced_nil ?_)))
  unfold newList
  exact wpAny_newObj_type ⟨S.push, fun _ q => by cases q⟩ (by show ([] : List Value).toArray.size ≤ sizeLine; rw [sizeLine_eq]; exact Nat.zero_le _)

theorem src_ok {val : Expr} {src : Option Str} (G : IE mg mb s₁ env m e C N mN) (S : IS s₁ m e C acc s) (h : srcOf env.kindOf val = some src) : wpAny (model prog w) A (eval val env) (fun v s' => IS s₁ m e C acc s' ∧ ∀ y, src = some y → m y = some v) E s ∧ ∀ x xp a ap (pos : Pos), swapsWith val (some (.Attribute (.Name x xp) a ap)) pos.line env = pure false := by
  unfold srcOf at h
  cases hn : asName val with
  | some y =>
    rw [hn] at h
    obtain rfl := asName_inv hn
    have z := only_inv h
    have c := Bool.and_eq_true_iff.mp z.1
    cases z.2
    exact ⟨is_name G S (eq_of_beq c.1) ((Bool.not_eq_true' _).mp c.2) fun v hv => ⟨S, fun y q => by cases q; exact hv⟩, fun _ _ _ _ _ => rfl⟩
  | none =>
    rw [hn] at h
    cases hc : asConst val with
    | some c =>
      rw [hc] at h
      obtain rfl := asConst_inv hc
      have z := only_inv h
      cases z.2
      exact ⟨is_const S z.1, fun _ _ _ _ _ => rfl⟩
    | none =>
      rw [hc] at h
      obtain ⟨l, hl, h⟩ := bind_inv h
      obtain rfl := asLst_inv hl
      have z := only_inv h
      cases z.2
      rw [List.isEmpty_iff.mp z.1]
      exact ⟨is_list S, fun _ _ _ _ _ => rfl⟩

theorem super_ok {v : Expr} {pos : Pos} {Q : Flow → Shared → Prop} (G : IE mg mb s₁ env m e C N mN) (S : IS s₁ m e C acc s) (h : superP env.kindOf v = true) (k : ∀ s', IS s₁ m e C acc s' → Q .next s') : wpAny (model prog w) A (exec (.Expr v pos) env) Q E s := by
  refine Classical.byContradiction fun hno => ?_
  obtain ⟨c, hc, h1⟩ := any_inv h
  obtain ⟨a, ha, h2⟩ := any_inv h1
  obtain ⟨xy, hxy, h3⟩ := any_inv h2
  obtain ⟨x, hx, h4⟩ := any_inv h3
  obtain ⟨y, hy, h5⟩ := any_inv h4
  have c7 := Bool.and_eq_true_iff.mp h5
  have c6 := Bool.and_eq_true_iff.mp c7.1
  have c5 := Bool.and_eq_true_iff.mp c6.1
  have c4 := Bool.and_eq_true_iff.mp c5.1
  have c3 := Bool.and_eq_true_iff.mp c4.1
  have c2 := Bool.and_eq_true_iff.mp c3.1
  have c1 := Bool.and_eq_true_iff.mp c2.1
  apply hno
  rw [asCall_inv hc, asNameAttr_inv ha, two_inv hxy, asName_inv hx, asName_inv hy]
  exact wpAny_Expr (is_super_call G S c1.1 (eq_of_beq c1.2) (eq_of_beq c2.2) (eq_of_beq c3.2) (by rw [eq_of_beq c4.2]; decide) (eq_of_beq c5.2) (eq_of_beq c6.2) (eq_of_beq c7.2) fun s' S' => k s' S') (by unfold interactive; rw [G.kind]; rfl) (by rfl)

theorem step_sound {st : Stmt} {acc' : Attrs} {Q : Flow → Shared → Prop} (G : IE mg mb s₁ env m e C N mN) (S : IS s₁ m e C acc s) (hl : acc.length ≤ 1000) (h : initStep env.kindOf acc st = some acc') (k : ∀ s', IS s₁ m e C acc' s' → Q .next s') : wpAny (model prog w) A (exec st env) Q E s ∧ acc'.length ≤ acc.length + 1 := by
  unfold initStep at h
  cases hx : asExp st with
  | some v =>
    rw [hx] at h
    have z := only_inv h
    cases z.2
    rw [asExp_inv hx]
    exact ⟨super_ok G S z.1 k, Nat.le_succ _⟩
  | none =>
    rw [hx] at h
    obtain ⟨g, hg, h⟩ := bind_inv h
    obtain ⟨q, hq, h0⟩ := bind_inv h
    cases h0
    rw [asAsg_inv hg]
    obtain ⟨t, ht, h1⟩ := bind_inv hq
    obtain ⟨a, ha, h2⟩ := bind_inv h1
    obtain ⟨src, hs, h3⟩ := bind_inv h2
    have z := only_inv h3
    cases z.2
    have c := src_ok (prog := prog) (w := w) (A := A) (E := E) G S hs
    exact ⟨one_inv ht ▸ asNameAttr_inv ha ▸ is_assign G z.1 hl (c.2 _ _ _ _ _) c.1 k, Nat.le_refl _⟩

theorem init_sound (G : IE mg mb s₁ env m e C N mN) (body : List Stmt) : ∀ (acc acc' : Attrs) (s : Shared) (Q : Flow → Shared → Prop), initP env.kindOf body acc = some acc' → acc.length + body.length ≤ 1000 → IS s₁ m e C acc s → (∀ s', IS s₁ m e C acc' s' → Q .next s') →
    wpAny (model prog w) A (execs body env) Q E s := by
  induction body with
  | nil => exact fun acc acc' s Q hp hl S h => wpAny_execs_nil (by cases hp; exact h s S)
  | cons st r ih =>
    intro acc acc' s Q hp hl S h
    obtain ⟨a1, h1, h2⟩ := bind_inv hp
    rw [List.length_cons] at hl
    have z := fun {Q : Flow → Shared → Prop} => step_sound (prog := prog) (w := w) (A := A) (E := E) (Q := Q) G S (Nat.le_trans (Nat.le_add_right _ _) hl) h1
    exact wpAny_execs_cons (z fun s' S' => ih a1 acc' s' Q h2 (Nat.le_trans (Nat.add_le_add_right (z (Q := fun _ _ => True) fun _ _ => trivial).2 _) (by rw [Nat.add_assoc, Nat.add_comm 1]; exact hl)) S' h).1
end
end Mine

set_option linter.all false
namespace Mine
open PySem PySem.W PyProof.Rows

theorem bindL_not {k : Str → Option NameKind} {n : Str} {bs : List (Str × Value)} : ∀ {m : Str → Option Value}, n ∉ bs.map (·.1) → bindL k bs m n = m n := by
  induction bs with
  | nil => exact fun _ => rfl
  | cons b r ih =>
    intro m h
    have hx : ¬ n = b.1 := fun e => h (e ▸ .head _)
    refine (ih fun q => h (.tail _ q)).trans ?_
    show (if k b.1 = some .local then fun y => if y = b.1 then some b.2 else m y else m) n = m n
    split
    · exact if_neg hx
    · rfl
theorem bindL_mem {k : Str → Option NameKind} {n : Str} {v : Value} {bs : List (Str × Value)} : ∀ {m : Str → Option Value}, (bs.map (·.1)).Nodup → (n, v) ∈ bs → k n = some .local → bindL k bs m n = some v := by
  induction bs with
  | nil => exact fun _ h => nomatch h
  | cons b r ih =>
    intro m nd h hk
    have z := List.nodup_cons.mp nd
    cases h with
    | head => exact (bindL_not z.1).trans (by show (if k n = some .local then fun y => if y = n then some v else m y else m) n = some v; rw [if_pos hk]; exact if_pos rfl)
    | tail _ h => exact ih z.2 h hk
theorem bindC_not {k : Str → Option NameKind} {n : Str} {bs : List (Str × Value)} : ∀ {m : Str → Option Value}, n ∉ bs.map (·.1) → bindC k bs m n = m n := by
  induction bs with
  | nil => exact fun _ => rfl
  | cons b r ih =>
    intro m h
    have hx : ¬ n = b.1 := fun e => h (e ▸ .head _)
    refine (ih fun q => h (.tail _ q)).trans ?_
    show (if k b.1 = some .local then m else fun y => if y = b.1 then some b.2 else m y) n = m n
    split
    · rfl
    · exact if_neg hx
theorem bindC_mem {k : Str → Option NameKind} {n : Str} {v : Value} {bs : List (Str × Value)} : ∀ {m : Str → Option Value}, (bs.map (·.1)).Nodup → (n, v) ∈ bs → k n ≠ some .local → bindC k bs m n = some v := by
  induction bs with
  | nil => exact fun _ h => nomatch h
  | cons b r ih =>
    intro m nd h hk
    have z := List.nodup_cons.mp nd
    cases h with
    | head => exact (bindC_not z.1).trans (by show (if k n = some .local then m else fun y => if y = n then some v else m y) n = some v; rw [if_neg hk]; exact if_pos rfl)
    | tail _ h => exact ih z.2 h hk

noncomputable def initNames : List Str := ["self", "code", "value", "errorcode", "level", "ret"]
noncomputable def initBinds (e a b c l r : Value) : List (Str × Value) := [("self", e), ("code", a), ("value", b), ("errorcode", c), ("level", l), ("ret", r)]
/-- what the heap after the loading says of a def of one text -/
structure InitAt (H0 : Heap) (fI : Addr) (oI : Obj) (fd : FuncData) (body : List Stmt) (attrs : Attrs) : Prop where
  at_ : H0.get? fI = some oI
  cls : oI.cls = .type "function"
  data : oI.data = .func fd
  body_ : fd.body = .stmts body
  code : H0.CodeRec fd.code fd.qualname
  clo : fd.closure = []
  gl : fd.globals = mainGlobals
  bl : fd.builtins = builtinsNs
  co : fd.scope.isCoroutine = false
  gen : fd.scope.isGenerator = false
  kind : fd.scope.kind = .function
  loc : ∀ x, fd.scope.names.lookup x = some .local → x ∈ initNames
  loc' : ∀ x ∈ initNames, fd.scope.names.lookup x = some .local
  init : initP (fun x => fd.scope.names.lookup x) body [] = some attrs
  len : body.length ≤ 100
  acode : attrs.lookup ("code" : Str) = some (some ("code" : Str))
  avalue : attrs.lookup ("value" : Str) = some (some ("value" : Str))
  aerr : attrs.lookup ("errorcode" : Str) = some (some ("errorcode" : Str))
  bind_ : ∀ s a b c d, H0.StaysIn s.heap → ∃ l r, BindsTo s fd ⟨[a, b, c, d], []⟩ (initBinds a b c d l r)
/-- what the heap after the loading says of the class Raised -/
structure RzC (H0 : Heap) (mg mb : Str → Option Value) (C : Addr) : Prop where
  raised : mg "Raised" = some (.ref C)
  g : H0.Ns mainGlobals mg
  b : H0.Ns builtinsNs mb
  lim : H0.NoLimit
  exc : mg "Exception" = none ∧ mb "Exception" = some (.type "Exception")
  cls : ∃ N mN fI oI fd body attrs, IsC H0 C N ∧ H0.Ns N mN ∧ (mN "__setattr__" = none ∧ ∀ a ∈ quietNames, mN a = none) ∧ mN "__init__" = some (.ref fI) ∧ InitAt H0 fI oI fd body attrs
theorem IsC.keeps {h h' : Heap} {C N : Addr} (c : IsC h C N) (st : h.StaysIn h') : IsC h' C N := by
  cases c with
  | mk _ _ _ _ _ _ _ _ _ _ _ _ _ e => exact ⟨_, _, _, _, _, _, _, _, _, _, _, _, _, st _ _ e⟩

/-- the object that the call of the class makes -/
noncomputable def MadeR (C : Addr) (h h' : Heap) (ea : Addr) (a b c : Value) : Prop :=
  (∀ b o, h.get? b = some o → h'.get? b = some o) ∧ h.get? ea = none ∧ ∃ oe vs dx mA, h'.get? ea = some oe ∧ oe.cls = .ref C ∧ oe.data = .fields vs ∧ 1 < vs.size ∧ vs[1]? = some .none ∧ oe.dict = some dx ∧ h'.Ns dx mA ∧
    mA "code" = some a ∧ mA "value" = some b ∧ mA "errorcode" = some c

section
variable {prog : Program} {w : World} {A : Around} {E : Value → Shared → Prop} {H0 : Heap} {mg mb : Str → Option Value} {C : Addr} {s : Shared}

theorem init_run {K : Flow → Shared → Prop} {N fI : Addr} {mN : Str → Option Value} {oI : Obj} {fd : FuncData} {body : List Stmt} {attrs : Attrs} {a b c l r : Value} {h₀ h₁ : Heap} {g : Array GenState} {d : Drawn} {t : Nat} {os : OsState} {s₁ : Shared} {e : Addr} {oe : Obj} {vs : Array Value}
    (R' : RzC H0 mg mb C) (hC : IsC H0 C N) (hN : H0.Ns N mN) (quiet : mN "__setattr__" = none ∧ ∀ a ∈ quietNames, mN a = none) (I : InitAt H0 fI oI fd body attrs) (st₁ : H0.StaysIn h₁) (k₀ : ∀ b o, h₀.get? b = some o → h₁.get? b = some o) (new : h₀.get? e = none)
    (he : h₁.get? e = some oe) (hoe : oe.cls = .ref C ∧ oe.data = .fields vs ∧ oe.dict = none) (hvs : vs.size = 6 ∧ vs[1]? = some .none) (hne : ∀ b o, H0.get? b = some o → e ≠ b)
    (x : InCF ⟨h₁, g, d, t, os⟩ (callEnvC fd h₁.objs.size fI) (bindL (callEnvC fd h₁.objs.size fI).kindOf (initBinds (.ref e) a b c l r) fun _ => none) (bindC (callEnvC fd h₁.objs.size fI).kindOf (initBinds (.ref e) a b c l r) fun _ => none) s₁)
    (h : ∀ h' tk, MadeR C h₀ h' e a b c → K .next ⟨h', g, d, tk, os⟩) :
    wpAny (model prog w) A (execs body (callEnvC fd h₁.objs.size fI)) K E s₁ := by
  have hk : ∀ y ∈ initNames, (callEnvC fd h₁.objs.size fI).kindOf y = some .local := I.loc'
  have bm : ∀ y v, (y, v) ∈ initBinds (.ref e) a b c l r → y ∈ initNames → bindL (callEnvC fd h₁.objs.size fI).kindOf (initBinds (.ref e) a b c l r) (fun _ => none) y = some v := fun y v hy hm => bindL_mem (show initNames.Nodup by decide) hy (hk y hm)
  have keep₁ := x.toC.toInCall.keep
  have st₂ : H0.StaysIn s₁.heap := fun b o z => keep₁ b o (st₁ b o z)
  have liv : ∀ {n m}, H0.Ns n m → e ≠ n := fun z => z.elim fun o z => z.elim fun _ z => z.elim fun _ z => hne _ o z.1
  have bs : bindL (callEnvC fd h₁.objs.size fI).kindOf (initBinds (.ref e) a b c l r) (fun _ => none) "self" = some (.ref e) := bm _ _ (.head _) (.head _)
  have b1 := bm "code" a (.tail _ (.head _)) (.tail _ (.head _))
  have b2 := bm "value" b (.tail _ (.tail _ (.head _))) (.tail _ (.tail _ (.head _)))
  have b3 := bm "errorcode" c (.tail _ (.tail _ (.tail _ (.head _)))) (.tail _ (.tail _ (.tail _ (.head _))))
  have loc : ∀ y, (callEnvC fd h₁.objs.size fI).kindOf y = some .local → ∃ v, bindL (callEnvC fd h₁.objs.size fI).kindOf (initBinds (.ref e) a b c l r) (fun _ => none) y = some v := fun y hy => by
    have m : y ∈ (initBinds (.ref e) a b c l r).map (·.1) := I.loc y hy
    exact (List.mem_map.mp m).elim fun z hz => ⟨z.2, bm y z.2 (hz.2 ▸ hz.1) (I.loc y hy)⟩
  clear bm hk
  generalize bindL (callEnvC fd h₁.objs.size fI).kindOf (initBinds (.ref e) a b c l r) (fun _ => none) = m at x bs b1 b2 b3 loc
  have G : IE mg mb s₁ (callEnvC fd h₁.objs.size fI) m e C N mN :=
    { kind := I.kind, gl := I.gl, bl := I.bl, ns := x.toC.toInCall.ns
      apart := ⟨Nat.ne_of_lt (Heap.lt_size he), hC.casesOn fun _ _ _ _ _ _ _ _ _ _ _ _ _ z => hne _ _ z, liv hN, liv R'.g, liv R'.b⟩
      self_ := bs, loc := loc, g := R'.g.keeps st₂, b := R'.b.keeps st₂, exc := R'.exc, cls := hC.keeps st₂, nsN := hN.keeps st₂, quiet := quiet }
  have S : IS s₁ m e C [] s₁ := ⟨⟨_, _, rfl⟩, fun _ => none, vs, ⟨⟨oe, keep₁ _ _ he, hoe.1, hoe.2.1, .inl ⟨hoe.2.2, fun _ => rfl⟩⟩, fun _ _ _ z => z⟩, hvs, ⟨fun _ _ => rfl, (fun _ _ q => by cases q), fun _ q => absurd rfl q⟩⟩
  refine init_sound G body [] attrs s₁ _ I.init (by rw [List.length_nil, Nat.zero_add]; exact Nat.le_trans I.len (by decide)) S fun s' S' => ?_
  refine Classical.byContradiction fun hno => ?_
  obtain ⟨⟨h', tk, e1⟩, mA, vs', ⟨⟨oe', q1, q2, q3, q4⟩, kk⟩, sz, n⟩ := S'
  obtain ⟨h₂, tk₂, e2, _⟩ := x.toC.done
  subst e2
  subst e1
  have b1 := (n.yes _ _ I.acode).trans b1
  refine hno (h h' tk ⟨fun b o z => kk b o (fun q => by rw [q, new] at z; cases z) (keep₁ _ _ (k₀ _ _ z)), new, oe', vs', ?_⟩)
  rcases q4 with ⟨_, z⟩ | ⟨dx, z1, z2, z3, z4⟩
  · rw [z] at b1; cases b1
  · exact ⟨dx, mA, q1, q2, q3, by rw [sz.1]; decide, sz.2, z1, z4.ns, b1, (n.yes _ _ I.avalue).trans b2, (n.yes _ _ I.aerr).trans b3⟩

theorem raised_call {a b c : Value} {Q : Value → Shared → Prop} (R : RzC H0 mg mb C) (st : H0.StaysIn s.heap) (hroom : A.depth + 2 < recursionLimit)
    (h : ∀ h' tk ea, MadeR C s.heap h' ea a b c → Q (.ref ea) { s with heap := h', toks := tk }) : wpAny (model prog w) A (call (.ref C) [a, b, c]) Q E s := by
  refine Classical.byContradiction fun hno => ?_
  obtain ⟨N, mN, fI, oI, fd, body, attrs, hC, hN, quiet, hinit, I⟩ := R.cls
  have hC' := hC
  obtain ⟨nm, q, bs, sn, sub, ab, col, dd, k0, k1, k2, k3, k5, hCo⟩ := hC'
  obtain ⟨hh, g, d, t, os⟩ := s
  refine hno (wpAny_call_exc_init PySem.F.excBase_Exception (st _ _ hCo) (hN.keeps st) hinit (st _ _ I.at_) I.cls (fun h₁ e hm => ?_) (by rw [sizeLine_eq]; show 3 ≤ 16777216; decide))
  have st₁ : H0.StaysIn h₁ := fun b o z => hm.keeps b o (st b o z)
  refine Classical.byContradiction fun hno => ?_
  obtain ⟨l, r, hb⟩ := I.bind_ ⟨h₁, g, d, t, os⟩ (.ref e) a b c st₁
  obtain ⟨tt, he, htn, ht⟩ := hm.there
  have hne : ∀ b o, H0.get? b = some o → e ≠ b := fun b o z q => by
    have := st _ _ z
    rw [← q, hm.new] at this; cases this
  have hw : Code.weight (.builtin "type.__call__" ⟨[.ref C, a, b, c], []⟩) = 1 := by kernel_rfl
  refine hno (wpAny_call (call_fn (s := ⟨h₁, g, d, t, os⟩) (fd := fd) (body := body) (show A.depth + Code.weight (.builtin "type.__call__" ⟨[.ref C, a, b, c], []⟩) < recursionLimit by rw [hw]; exact Nat.lt_of_succ_lt hroom) (st₁ _ _ I.at_) I.data (R.lim.keeps st₁) (I.code.keeps st₁) I.body_ hb I.clo (fun x hx => .inl (I.loc' _ (show x.1 ∈ (initBinds (.ref e) a b c l r).map (·.1) from List.mem_map.mpr ⟨x, hx, rfl⟩))) (fun s₁ x => ?_) I.co I.gen I.kind))
  exact init_run (h₀ := hh) (vs := #[.ref tt, .none, .none, .none, .bool false, .none]) R hC hN quiet I st₁ (fun b o z => hm.keeps b o z) hm.new he ⟨rfl, rfl, rfl⟩ ⟨rfl, rfl⟩ hne x (fun h' tk M => ⟨rfl, h h' tk e M⟩)
end
end Mine

set_option linter.all false
namespace Mine
open PySem PySem.W PyProof.Rows

section
variable {prog : Program} {w : World} {A : Around} {E : Value → Shared → Prop} {H0 : Heap} {mg mb : Str → Option Value} {C : Addr} {s : Shared} {env : Env}

noncomputable abbrev IsCls (h : Heap) (C : Addr) : Prop := ∃ N, IsC h C N
theorem RzC.isCls (R : RzC H0 mg mb C) {h : Heap} (st : H0.StaysIn h) : IsCls h C := R.cls.elim fun N z => z.elim fun _ z => z.elim fun _ z => z.elim fun _ z => z.elim fun _ z => z.elim fun _ z => z.elim fun _ z => ⟨N, z.1.keeps st⟩

theorem callWith_class {pos : Pos} {e : Expr} {rest : List Expr} {Q : Value → Shared → Prop}
    (h : wpAny (model prog w) A (spliced (backTo pos (starEach (e :: rest) env))) (fun vs s₁ => IsCls s₁.heap C ∧ wpAny (model prog w) A (call (.ref C) vs) Q E s₁) E s)
    (he : starEach (e :: rest) env = (false, eval e env) :: starEach rest env := by rfl)
    (hplain : (backTo pos (starEach rest env)).any (·.1) = false := by rfl) :
    wpAny (model prog w) A (callWith pos (.ref C) [] (backTo pos (starEach (e :: rest) env)) []) Q E s := by
  rw [he] at h ⊢
  have hst : ((backTo pos ((false, eval e env) :: starEach rest env)).any (fun x => x.fst) || ([] : List (Option Str × Sem Value)).any fun x => x.fst.isNone) = false := by
    show ((false || (backTo pos (starEach rest env)).any (·.1)) || false) = false
    rw [hplain]; rfl
  unfold callWith
  refine wpAny_bind (wpAny_holding (Calls.evalArgs_plain (wpAny_mono h (fun vs s₁ h₁ => ?_) fun _ _ x => x)))
  refine Classical.byContradiction fun hno => ?_
  obtain ⟨⟨N, hC⟩, h₁⟩ := h₁
  obtain ⟨nm, q, bs, sn, sub, ab, col, dd, k0, k1, k2, k3, k5, hC⟩ := hC
  obtain ⟨hh, g, d, t, os⟩ := s₁
  refine hno (wpAny_bind (wpAny_standAt (wpAny_bind (wpAny_keeperOf_exc hC ?_))))
  rw [hst]
  exact wpAny_bind (wpAny_mono h₁ (fun r s' hr => wpAny_bind (wpAny_holding (wpAny_point (wpAny_pure hr)))) fun _ _ x => x)

/-- the raise of an object that is there -/
theorem raise_inst {ex : Expr} {pos : Pos} {Q : Flow → Shared → Prop} (hh : A.handled = none)
    (h : wpAny (model prog w) A (eval ex env) (fun v s₁ => ∃ e oe vs, v = .ref e ∧ IsCls s₁.heap C ∧ s₁.heap.get? e = some oe ∧ oe.cls = .ref C ∧ oe.data = .fields vs ∧ vs[1]? = some .none ∧ E (.ref e) s₁) E s) :
    wpAny (model prog w) A (exec (.Raise (some ex) none pos) env) Q E s := by
  show wpAny _ A (do standAt pos; raiseStmt env (some (do let v ← eval ex env; standAt pos; pure v)) none) Q E s
  refine wpAny_bind (wpAny_standAt ?_)
  unfold raiseStmt
  dsimp only
  refine wpAny_bind (wpAny_bind (wpAny_mono h (fun v s₁ h₁ => wpAny_bind (wpAny_standAt (wpAny_pure ?_))) fun _ _ x => x))
  refine Classical.byContradiction fun hno => ?_
  obtain ⟨e, oe, vs, rfl, ⟨N, hC⟩, he, hc, hd, h1, hE⟩ := h₁
  obtain ⟨nm, q, bs, sn, sub, ab, col, dd, k0, k1, k2, k3, k5, hC⟩ := hC
  obtain ⟨hp, g, d, tk, os⟩ := s₁
  have hcB : ([Value.ref C, .type "Exception", .type "BaseException", .type "object"] : List Value).contains (.type "BaseException") = true := by
    rw [List.contains_cons]; rfl
  have hnt : ∀ {Q' : Bool → Shared → Prop}, Q' false ⟨hp, g, d, tk, os⟩ → wpAny (model prog w) A (isType (.ref e)) Q' E ⟨hp, g, d, tk, os⟩ := by
    intro Q' hq
    simp only [isType, loadHead]
    refine wpAny_bind (wpAny_loadPart he ?_)
    rw [hd]; exact wpAny_pure hq
  refine hno (wpAny_bind (wpAny_pure ?_))
  dsimp only
  refine wpAny_bind (wpAny_holding ?_)
  unfold excFromValue isExcClass
  refine wpAny_bind (wpAny_bind (hnt (wpAny_ite_false rfl (wpAny_pure (wpAny_ite_false rfl ?_)))))
  unfold isInstance
  repeat (first | (with_reducible refine wpAny_loadPart_at he ?_; rw [hc]) | with_reducible refine wpAny_loadPart_at hC ?_ | (with_reducible refine wpAny_isSubtype_exc hC ?_; rw [hcB]) | with_reducible refine hnt ?_ | wp_step)
  rw [hd]
  refine wpAny_pure ?_
  rw [h1]
  refine wpAny_pure ?_
  rw [if_neg (by decide)]
  exact wpAny_pure (wpAny_raiseNew_none hh hE)

noncomputable def three {α : Type} : List α → Option (α × α × α)
  | [] => none
  | a :: r => (two r).bind fun b => some (a, b.1, b.2)
noncomputable def isOne (c : Const) : Bool := (intC c).any fun i => i == 1
noncomputable def errOk (ks : Str → Option NameKind) (f x y : Str) : Bool := f == ("Raised" : Str) && x == ("text" : Str) && y == ("errorcode" : Str) && ks f == some .globalImplicit && ks x == some .local && ks y == some .local
/-- the body of error -/
noncomputable def errBody (ks : Str → Option NameKind) (b : List Stmt) : Bool := (one b).any fun s => (asRet s).any fun r => (asCallN r.1).any fun c => (three c.2.2.1).any fun t => (asConst t.1).any fun o => (asName t.2.1).any fun x => (asName t.2.2).any fun y => isOne o.1 && errOk ks c.1 x.1 y.1
inductive ErrShape (ks : Str → Option NameKind) (b : List Stmt) : Prop
  | mk (fp : Pos) (ck : Nat) (cp xp yp cpos pos : Pos) : b = [.Return (some (.Call (.Name "Raised" fp) [.Constant (.int 1) ck cp, .Name "text" xp, .Name "errorcode" yp] [] cpos)) pos] → ks "Raised" = some .globalImplicit → ks "text" = some .local → ks "errorcode" = some .local → ErrShape ks b
theorem asRet_inv {s : Stmt} {a : Expr × Pos} (h : asRet s = some a) : s = .Return (some a.1) a.2 := val_inv (o := (sw s).rt) h
theorem three_inv {α : Type} {l : List α} {a : α × α × α} (h : three l = some a) : l = [a.1, a.2.1, a.2.2] := by
  cases l with
  | nil => cases h
  | cons x r => obtain ⟨b, hb, h⟩ := bind_inv h; cases h; rw [two_inv hb]
theorem errBody_inv {ks : Str → Option NameKind} {b : List Stmt} (h : errBody ks b = true) : ErrShape ks b := by
  obtain ⟨s, hs, h1⟩ := any_inv h
  obtain ⟨r, hr, h2⟩ := any_inv h1
  obtain ⟨c, hc, h3⟩ := any_inv h2
  obtain ⟨t, ht, h4⟩ := any_inv h3
  obtain ⟨o, ho, h5⟩ := any_inv h4
  obtain ⟨x, hx, h6⟩ := any_inv h5
  obtain ⟨y, hy, h7⟩ := any_inv h6
  have c1 := Bool.and_eq_true_iff.mp h7
  have c2 := Bool.and_eq_true_iff.mp c1.2
  have c3 := Bool.and_eq_true_iff.mp c2.1
  have c4 := Bool.and_eq_true_iff.mp c3.1
  have c5 := Bool.and_eq_true_iff.mp c4.1
  have c6 := Bool.and_eq_true_iff.mp c5.1
  have e1 := eq_of_beq c6.1
  have e2 := eq_of_beq c6.2
  have e3 := eq_of_beq c5.2
  have eo : o.1 = .int 1 := (any_inv c1.1).elim fun i z => (intC_inv z.1).trans (congrArg Const.int (eq_of_beq z.2))
  refine ⟨c.2.1, o.2.1, o.2.2, x.2, y.2, c.2.2.2, r.2, ?_, e1 ▸ eq_of_beq c4.2, e2 ▸ eq_of_beq c3.2, e3 ▸ eq_of_beq c2.2⟩
  rw [one_inv hs, asRet_inv hr, asCallN_inv hc, three_inv ht, asConst_inv ho, asName_inv hx, asName_inv hy, eo, e1, e2, e3]

/-- what the heap after the loading says of a def with given names of its parameters -/
structure FnAt (H0 : Heap) (mg : Str → Option Value) (name : Str) (a : Addr) (o : Obj) (fd : FuncData) (body : List Stmt) (nargs : Nat) (names : List Str) : Prop where
  name : mg name = some (.ref a)
  at_ : H0.get? a = some o
  data : o.data = .func fd
  body_ : fd.body = .stmts body
  code : H0.CodeRec fd.code fd.qualname
  clo : fd.closure = []
  gl : fd.globals = mainGlobals
  bl : fd.builtins = builtinsNs
  co : fd.scope.isCoroutine = false
  gen : fd.scope.isGenerator = false
  kind : fd.scope.kind = .function
  bind_ : ∀ s vals, H0.StaysIn s.heap → vals.length = nargs → BindsTo s fd ⟨vals, []⟩ (names.zip vals)

structure RzE (H0 : Heap) (mg mb : Str → Option Value) (C : Addr) : Prop where
  c : RzC H0 mg mb C
  e : ∃ a o fd body, FnAt H0 mg "error" a o fd body 2 ["text", "errorcode"] ∧ errBody (fun x => fd.scope.names.lookup x) body = true

theorem error_call {a b : Value} {Q : Value → Shared → Prop} {f : Addr} {o : Obj} {fd : FuncData} {body : List Stmt} (R : RzC H0 mg mb C) (Fn : FnAt H0 mg "error" f o fd body 2 ["text", "errorcode"]) (hB : errBody (fun x => fd.scope.names.lookup x) body = true)
    (st : H0.StaysIn s.heap) (hroom : A.depth + 3 < recursionLimit)
    (h : ∀ h' tk ea t, MadeR C s.heap h' ea (.int 1 t) a b → Q (.ref ea) { s with heap := h', toks := tk }) : wpAny (model prog w) A (call (.ref f) [a, b]) Q E s := by
  refine Classical.byContradiction fun hno => ?_
  obtain ⟨fp, ck, cp, xp, yp, cpos, pos, rfl, k4, k5, k6⟩ := errBody_inv hB
  refine hno (wpAny_call (call_fn (fd := fd) (Nat.lt_of_le_of_lt (Nat.le_add_right _ _) hroom) (st _ _ Fn.at_) Fn.data (R.lim.keeps st) (Fn.code.keeps st) Fn.body_ (Fn.bind_ s [a, b] st rfl) Fn.clo (fun z hz => .inl ?_) (fun s₁ X => ?_) Fn.co Fn.gen Fn.kind))
  · cases hz with
    | head => exact k5
    | tail _ hz => cases hz with
      | head => exact k6
      | tail _ hz => cases hz
  · have keep₁ := X.toC.toInCall.keep
    have st₁ : H0.StaysIn s₁.heap := fun b o z => keep₁ b o (st b o z)
    have nd : ((([("text" : Str), "errorcode"].zip [a, b]) : List (Str × Value)).map (·.1)).Nodup := show ([("text" : Str), "errorcode"] : List Str).Nodup by decide
    have m1 : bindL (callEnvC fd s.heap.objs.size f).kindOf ([("text" : Str), "errorcode"].zip [a, b]) (fun _ => none) "text" = some a := bindL_mem nd (.head _) k5
    have m2 : bindL (callEnvC fd s.heap.objs.size f).kindOf ([("text" : Str), "errorcode"].zip [a, b]) (fun _ => none) "errorcode" = some b := bindL_mem nd (.tail _ (.head _)) k6
    refine wpAny_execs_cons (wpAny_Return_some (wpAny_Call_NameR (Calls.Name_function_global Fn.kind k4 (Calls.loadGlobal_global (mg := mg) (by show s₁.heap.Ns fd.globals mg; rw [Fn.gl]; exact R.g.keeps st₁) R.raised (callWith_class
      (Calls.spliced_cons (wpAny_Constant_int (k := ck) (pos := cp) (Calls.spliced_cons (wpAny_Name (pos := xp) (wpAny_loadName_local Fn.kind k5 X.toC.toInCall.ns m1 (Calls.spliced_cons (wpAny_Name (pos := yp) (wpAny_loadName_local Fn.kind k6 X.toC.toInCall.ns m2 (Calls.spliced_nil ⟨R.isCls st₁, raised_call R st₁ (Nat.lt_of_le_of_lt (show A.depth + 1 + 2 ≤ A.depth + 3 from Nat.le_refl _) hroom) fun h' tk ea M => ?_⟩)) (by decide)))) (by decide))))))) (by decide))))
    refine Classical.byContradiction fun hno => ?_
    obtain ⟨h₂, tk₂, e2, _⟩ := X.toC.done
    subst e2
    refine hno (h h' tk ea _ ⟨fun b o z => M.1 b o (keep₁ b o z), ?_, M.2.2⟩)
    cases q : s.heap.get? ea with
    | none => rfl
    | some o => have := keep₁ _ _ q; rw [M.2.1] at this; cases this
end
end Mine

namespace Mine
open PySem PySem.W PyProof.Rows

/-! the entry of a def's frame: what the names are -/

noncomputable def enterOk (sc : Scope) (names : List Str) : Bool := distinct (sc.names.map (·.1)) && distinct names && sc.names.all (fun y => !(y.1 == ("__debug__" : Str))) && names.all (fun x => (sc.names.lookup x == some .local) || (sc.names.lookup x == some .cell)) && sc.names.all (fun y => !(y.2 == .cell) || ((cellsFrom 0 sc.names []).map (·.1)).contains y.1)

theorem lookup_of_mem {β : Type} : ∀ {l : List (Str × β)} {x : Str} {b : β}, (l.map (·.1)).Nodup → (x, b) ∈ l → l.lookup x = some b
  | [], _, _, _, h => nomatch h
  | (y, c) :: r, x, b, nd, h => by
    obtain ⟨n1, n2⟩ := List.nodup_cons.mp nd
    rw [List.lookup_cons]
    rcases List.mem_cons.mp h with e | h'
    · cases e; simp
    · have : (x == y) = false := by
        rw [beq_eq_false_iff_ne]; rintro rfl
        exact n1 (List.mem_map.mpr ⟨(x, b), h', rfl⟩)
      rw [this]; exact lookup_of_mem n2 h'

theorem look_locOf {sc : Scope} {names : List Str} {args : List LV} {x : Str} {lv : LV} (nd : (sc.names.map (·.1)).Nodup) (h : look (locOf sc names args) x = some lv) :
    ∃ k, sc.names.lookup x = some k ∧ ((k = .local ∧ lv = ((names.zip args).lookup x).getD .unb) ∨ (k = .cell ∧ ∃ d, (names.zip args).lookup x = some (.val d) ∧ lv = .cell d) ∨ (k = .globalImplicit ∧ lv = .glob)) := by
  unfold look at h
  have hm := PySem.mem_of_lookup h
  unfold locOf at hm
  obtain ⟨⟨y, k⟩, my, e⟩ := List.mem_filterMap.mp hm
  cases k with
  | «local» => cases e; exact ⟨_, lookup_of_mem nd my, .inl ⟨rfl, rfl⟩⟩
  | cell =>
    simp only at e
    split at e
    · rename_i d hd
      cases e; exact ⟨_, lookup_of_mem nd my, .inr (.inl ⟨rfl, d, hd, rfl⟩)⟩
    · cases e
  | globalImplicit => cases e; exact ⟨_, lookup_of_mem nd my, .inr (.inr ⟨rfl, rfl⟩)⟩
  | free => cases e
  | globalExplicit => cases e

/-- a parameter's value -/
theorem zip_arg {pa : Option Addr} {h : Heap} {x : Str} {lv : LV} : ∀ {names : List Str} {vs : List Value} {lvs : List LV}, names.Nodup → ArgsOK pa h vs lvs → (names.zip lvs).lookup x = some lv →
    ∃ v, (x, v) ∈ names.zip vs ∧ ((∃ d, lv = .val d ∧ Rd (pens pa) h v d) ∨ (lv = .pen ∧ ∃ a, pa = some a ∧ v = .ref a)) := by
  intro names
  induction names with
  | nil => intro vs lvs _ _ e; cases e
  | cons n r ih =>
    intro vs lvs nd ok e
    have nd := List.nodup_cons.mp nd
    have go : ∀ {v l vs' lvs'}, ArgsOK pa h vs' lvs' → ((n :: r).zip (l :: lvs')).lookup x = some lv → ((∃ d, l = .val d ∧ Rd (pens pa) h v d) ∨ (l = .pen ∧ ∃ a, pa = some a ∧ v = .ref a)) →
        ∃ v', (x, v') ∈ (n :: r).zip (v :: vs') ∧ ((∃ d, lv = .val d ∧ Rd (pens pa) h v' d) ∨ (lv = .pen ∧ ∃ a, pa = some a ∧ v' = .ref a)) := by
      intro v l vs' lvs' ok e2 z
      rw [List.zip_cons_cons, List.lookup_cons] at e2
      cases hx : x == n with
      | true =>
        rw [hx] at e2
        cases e2
        rw [eq_of_beq hx]
        exact ⟨v, .head _, z⟩
      | false =>
        rw [hx] at e2
        exact (ih nd.2 ok e2).imp fun v' z => ⟨.tail _ z.1, z.2⟩
    cases ok with
    | nil => cases e
    | val rd ok => exact go ok e (.inl ⟨_, rfl, rd⟩)
    | pen ha ok => exact go ok e (.inr ⟨rfl, _, ha, rfl⟩)
theorem ArgsOK.length {pa : Option Addr} {h : Heap} : ∀ {vs : List Value} {lvs : List LV}, ArgsOK pa h vs lvs → vs.length = lvs.length
  | _, _, .nil => rfl
  | _, _, .val _ x => by simp [x.length]
  | _, _, .pen _ x => by simp [x.length]

theorem zip_keys {β : Type} : ∀ {names : List Str} {vs : List β} {x : Str}, x ∈ (names.zip vs).map (·.1) → x ∈ names
  | [], _, _, h => by simp at h
  | n :: r, [], _, h => by simp at h
  | n :: r, v :: vs, x, h => by
    rw [List.zip_cons_cons, List.map_cons] at h
    rcases List.mem_cons.mp h with e | h'
    · rw [e]; exact .head _
    · exact .tail _ (zip_keys h')
theorem zip_nodup {β : Type} : ∀ {names : List Str} {vs : List β}, names.Nodup → ((names.zip vs).map (·.1)).Nodup
  | [], _, _ => by simp
  | n :: r, [], _ => by simp
  | n :: r, v :: vs, nd => by
    obtain ⟨n1, n2⟩ := List.nodup_cons.mp nd
    rw [List.zip_cons_cons, List.map_cons]
    exact List.nodup_cons.mpr ⟨fun h => n1 (zip_keys h), zip_nodup n2⟩

theorem cell_there {sc : Scope} {x : Str} {L : Nat} (h : sc.names.all (fun y => !(y.2 == .cell) || ((cellsFrom 0 sc.names []).map (·.1)).contains y.1) = true) (hk : sc.names.lookup x = some .cell) : ((cellsFrom (L + 1) sc.names []).lookup x).isSome = true := by
  have := List.all_eq_true.mp h _ (PySem.mem_of_lookup hk)
  simp only [beq_self_eq_true, Bool.not_true, Bool.false_or] at this
  rw [cellsFrom_names sc.names 0 (L + 1) [] [] rfl] at this
  have hm := List.contains_iff_mem.mp this
  obtain ⟨⟨y, c⟩, hy, e⟩ := List.mem_map.mp hm
  simp only at e; subst e
  clear this hm
  generalize cellsFrom (L + 1) sc.names [] = l at hy
  induction l with
  | nil => cases hy
  | cons z r ih =>
    obtain ⟨q, d⟩ := z
    rw [List.lookup_cons]
    cases hq : y == q with
    | true => rfl
    | false =>
      rcases List.mem_cons.mp hy with e | m
      · cases e; simp at hq
      · exact ih m

section
variable {prog : Program} {w : World} {A : Around} {H0 : Heap} {mg mb : Str → Option Value} {pa : Option Addr} {s s₁ : Shared} {p : Option Int}

theorem enter_SS {fd : FuncData} {a : Addr} {names : List Str} {vs : List Value} {lvs : List LV} (hgl : fd.globals = mainGlobals) (hbl : fd.builtins = builtinsNs) (hkind : fd.scope.kind = .function) (hE : enterOk fd.scope names = true)
    (st : H0.StaysIn s.heap) (ff : ∀ l, A.frames = some l → FF H0 s.heap l) (hp : PenAt H0 pa p s.heap) (ha : ArgsOK pa s.heap vs lvs)
    (X : InCF s (callEnvC fd s.heap.objs.size a) (bindL (callEnvC fd s.heap.objs.size a).kindOf (names.zip vs) fun _ => none) (bindC (callEnvC fd s.heap.objs.size a).kindOf (names.zip vs) fun _ => none) s₁) :
    SS H0 (A.deeper (callEnvC fd s.heap.objs.size a)) (callEnvC fd s.heap.objs.size a) pa s.heap (pens pa) s noX (fun _ => 0) (locOf fd.scope names lvs) p s₁ := by
  unfold enterOk at hE
  rw [Bool.and_eq_true, Bool.and_eq_true, Bool.and_eq_true, Bool.and_eq_true] at hE
  obtain ⟨⟨⟨⟨e1, e2⟩, e3⟩, e4⟩, e5⟩ := hE
  have nd := distinct_nodup e1
  have nn := distinct_nodup e2
  have keep := X.toC.toInCall.keep
  have k : KeepS (pens pa) s.heap s₁.heap := .of_exact keep
  have noown : ∀ x xs, look (locOf fd.scope names lvs) x ≠ some (.own xs) := by
    intro x xs h
    obtain ⟨kd, _, r⟩ := look_locOf nd h
    rcases r with ⟨_, r⟩ | ⟨_, d, _, r⟩ | ⟨_, r⟩
    · cases q : (names.zip lvs).lookup x with
      | none => rw [q] at r; cases r
      | some lv =>
        rw [q] at r
        obtain ⟨v, _, z⟩ := zip_arg nn ha q
        simp only [Option.getD_some] at r
        rcases z with ⟨d, z, _⟩ | ⟨z, _⟩ <;> (rw [← r] at z; cases z)
    · cases r
    · cases r
  have nz := zip_nodup (vs := vs) nn
  have kof : ∀ x, (callEnvC fd s.heap.objs.size a).kindOf x = fd.scope.names.lookup x := fun _ => rfl
  have own : ∀ b, (Ow (fun _ => 0) pa (locOf fd.scope names lvs) b ∨ noX b) → pens pa b := by
    rintro b ((h | ⟨x, xs, h, _⟩) | h)
    · exact h
    · exact absurd h (noown x xs)
    · exact h.elim
  have plive : ∀ b, pens pa b → Live s.heap b := by
    intro b hb
    have := hp.old b hb
    unfold pens at hb; subst hb
    cases p with
    | none => exact hp.elim
    | some n => obtain ⟨⟨t, o, ho, _⟩, _⟩ := hp; exact ⟨o, ho⟩
  have lnew : s.heap.get? s.heap.objs.size = none := by
    cases q : s.heap.get? s.heap.objs.size with
    | none => rfl
    | some o => exact absurd (Heap.lt_size q) (Nat.lt_irrefl _)
  have l0 : H0.get? s.heap.objs.size = none := by
    cases q : H0.get? s.heap.objs.size with
    | none => rfl
    | some o => rw [st _ _ q] at lnew; cases lnew
  have st₁ : H0.StaysIn s₁.heap := fun b o z => keep b o (st b o z)
  refine ⟨st₁, hkind, hgl, hbl, ?_, ?_, ⟨_, X.toC.toInCall.ns, ?_⟩, ?_, ?_, k, ?_, X.cls, .inr (not_live_of_none lnew), l0, fun b h => .inl h, ?_, ?_⟩
  · intro x lv h
    obtain ⟨kd, hk, _⟩ := look_locOf nd h
    have := List.all_eq_true.mp e3 _ (PySem.mem_of_lookup hk)
    simpa using this
  · intro q
    obtain ⟨o, ho⟩ := plive _ q
    rw [show (callEnvC fd s.heap.objs.size a).locals = s.heap.objs.size from rfl, lnew] at ho; cases ho
  · intro x lv h
    obtain ⟨kd, hk, r⟩ := look_locOf nd h
    rcases r with ⟨rfl, r⟩ | ⟨rfl, d, hd, rfl⟩ | ⟨rfl, rfl⟩
    · cases q : (names.zip lvs).lookup x with
      | none => rw [q] at r; subst r; exact (kof x).trans hk
      | some lv' =>
        rw [q] at r
        simp only [Option.getD_some] at r
        subst r
        obtain ⟨v, hm, z⟩ := zip_arg nn ha q
        have hb : bindL (callEnvC fd s.heap.objs.size a).kindOf (names.zip vs) (fun _ => none) x = some v := bindL_mem nz hm ((kof x).trans hk)
        rcases z with ⟨d, rfl, rd⟩ | ⟨rfl, a', ha', rfl⟩
        · exact ⟨(kof x).trans hk, v, hb, (rd.keep k fun _ h => h).wider fun b h _ => own b h⟩
        · exact ⟨(kof x).trans hk, a', ha', hb⟩
    · obtain ⟨v, hm, z⟩ := zip_arg nn ha hd
      rcases z with ⟨d', z, rd⟩ | ⟨z, _⟩
      · cases z
        have hb : bindC (callEnvC fd s.heap.objs.size a).kindOf (names.zip vs) (fun _ => none) x = some v := bindC_mem nz hm (by rw [kof, hk]; decide)
        have hc := cell_there (L := s.heap.objs.size) e5 hk
        obtain ⟨c, hc⟩ := Option.isSome_iff_exists.mp hc
        have hcell := X.toC.cell x c hc
        rw [hb] at hcell
        refine ⟨c, v, (kof x).trans hk, hc, hcell, (rd.keep k fun _ h => h).wider fun b h _ => own b h, fun q => ?_⟩
        have h1 := X.toC.above x c (PySem.mem_of_lookup hc)
        have h2 := hp.old c q
        exact absurd (Nat.lt_trans h1 h2) (Nat.lt_irrefl _)
      · cases z
    · exact (kof x).trans hk
  · obtain ⟨h', tk, rfl, kk⟩ := X.toC.done
    exact hp.exact ⟨h', tk, rfl, kk⟩
  · intro l hl env' me
    cases hA : A.frames with
    | none => rw [show (A.deeper (callEnvC fd s.heap.objs.size a)).frames = A.frames.map (callEnvC fd s.heap.objs.size a :: ·) from rfl, hA] at hl; cases hl
    | some l₀ =>
      rw [show (A.deeper (callEnvC fd s.heap.objs.size a)).frames = A.frames.map (callEnvC fd s.heap.objs.size a :: ·) from rfl, hA] at hl
      cases hl
      rcases List.mem_cons.mp me with e | me
      · subst e
        obtain ⟨o, ho, hc, hn⟩ := X.cls
        exact ⟨by rw [show (callEnvC fd s.heap.objs.size a).scope.kind = fd.scope.kind from rfl, hkind]; decide, s.heap.objs.size, o, rfl, l0, ho, hc, hn⟩
      · exact ((ff l₀ hA).keep k) env' me
  · obtain ⟨h', tk, e, _⟩ := X.toC.done
    exact ⟨h', tk, e⟩
  · exact fun x xs h => absurd h (noown x xs)
  · exact fun x xs _ _ h => absurd h (noown x xs)
end
end Mine

set_option linter.all false
namespace Mine
open PySem PySem.W PyProof.Rows

noncomputable def XPc (C : Addr) : Heap → Heap → Value → Exc → Prop := fun hb h e x => XR C hb h e x ∧ ∀ b, Live hb b → Live h b

section
variable {prog : Program} {w : World} {A : Around} {H0 : Heap} {mg mb : Str → Option Value} {Cl : Addr}
variable {C : CallP} {env : Env} {pa : Option Addr} {B : Heap} {P : Addr → Prop} {s₀ : Shared} {X : Addr → Prop} {oa : Str → Addr} {ρ : Loc} {p : Option Int} {s : Shared} {E : Value → Shared → Prop} {n : Nat} {Q : Flow → Shared → Prop}

/-- the object as an exception in flight -/
theorem madeR_XPc {h h' : Heap} {ea : Addr} {t t' : Tok} {m : Str} {c : PyData} {v : Value} (M : MadeR Cl h h' ea (.int 1 t) (.str m t') v) (r : Rd (pens pa) h v c) (hf : flat c = true) : XPc Cl h h' (.ref ea) ⟨m, c⟩ := by
  obtain ⟨k, hn, oe, vs, dx, mA, q1, q2, q3, q4, q5, q6, q7, a1, a2, a3⟩ := M
  refine ⟨⟨ea, oe, vs, rfl, ⟨not_live_of_none hn, q1, q2, q3, q4, dx, mA, q6, q7, ⟨t, a1⟩, ⟨t', a2⟩, v, a3, ?_⟩, .inl q5⟩, fun b ⟨o, ho⟩ => ⟨o, k _ _ ho⟩⟩
  obtain ⟨as, r, _⟩ := r.keep (P' := pens pa) (.of_exact k) fun _ h => h
  rw [reads_flat r hf] at r
  exact r

theorem st_raise2 {f : Str} {fp cp pos : Pos} {a b : Expr} (G : Glo H0 mg mb) (R : RzE H0 mg mb Cl) (hh : A.handled = none) (hroom : A.depth + 3 < recursionLimit) (ev : EvF prog w A H0 (XPc Cl) C env pa n) (S : SS H0 A env pa B P s₀ noX oa ρ p s)
    (h : XPost H0 A (XPc Cl) env pa B P s₀ Q E (raise2X (evP n C false ρ) ρ p f a b)) : wpAny (model prog w) A (exec (.Raise (some (.Call (.Name f fp) [a, b] [] cp)) none pos) env) Q E s := by
  have h1 := when_x h
  have c1 := Bool.and_eq_true_iff.mp h1.1
  have c2 := Bool.and_eq_true_iff.mp c1.1
  have ha : notStar a = true := notStar_of (bind_stuck h1.2)
  have hf := eq_of_beq c2.1
  refine Classical.byContradiction fun hno => ?_
  obtain ⟨aE, o, fd, body, Fn, hB⟩ := R.e
  refine hno (raise_inst (C := Cl) hh (wpAny_Call_NameR (glob_sound G S.st (isGlobL_inv c2.2) (hf ▸ Fn.name) (callWith_fn (fo := o) (mem_cns ha (mem_cns c1.2 fun _ m => nomatch m)) Fn.data ?_))))
  rw [backTo_cons ha, backTo_cons c1.2]
  refine Calls.spliced_cons (seqX S (ev S.st a · E) h1.2 fun v m p₁ s₁ S₁ r₁ x₁ h₁ => Calls.spliced_cons (seqX S₁ (ev S₁.st b · E) h₁ fun v' c p₂ s₂ S₂ r₂ x₂ h₂ => Calls.spliced_nil ⟨S₂.stays _ _ Fn.at_, ?_⟩))
  have st := S₂.stays
  have keep := S₂.keep
  have kp := fun {s'} (K : Keeps s₂ s') => S₂.keeps K
  refine Classical.byContradiction fun hno => ?_
  obtain ⟨m', hm, h₃⟩ := ofOpt_x h₂
  obtain rfl := strOf_inv hm
  have h4 := when_x h₃
  obtain ⟨t', rfl⟩ := x₁.str_inv
  refine hno (error_call R.c Fn hB st hroom fun h' tk ea t M => ?_)
  have S₃ := kp (s' := { s₂ with heap := h', toks := tk }) ⟨h', tk, rfl, M.1⟩
  have xp := madeR_XPc M x₂ h4.1
  have h5 := h4.2
  refine Classical.byContradiction fun hno => ?_
  obtain ⟨k, hn, oe, vs, dx, mA, q1, q2, q3, q4, q5, _⟩ := M
  exact hno ⟨ea, oe, vs, rfl, R.c.isCls S₃.stays, q1, q2, q3, q5, h5 _ _ s₂.heap S₃.shape S₃.keep S₃.stays S₃.pen (fun b lb => keep.live lb) xp⟩
end
end Mine

namespace Mine
open PySem PySem.W PyProof.Rows

noncomputable def wrongMsg (u : Str) : Str := ("wrong # args: should be \"" : Str) ++ u ++ ("\"" : Str)
noncomputable def wrongCode : PyData := .tuple [.str "TCL", .str "WRONGARGS"]
noncomputable def noC : CallP := fun _ _ _ => .stuck

structure RzW (H0 : Heap) (mg mb : Str → Option Value) (C : Addr) : Prop where
  e : RzE H0 mg mb C
  w : ∃ a o fd body, FnAt H0 mg "wrong_args" a o fd body 1 ["usage"] ∧ enterOk fd.scope ["usage"] = true ∧ ∃ fp ea eb cp pos k, body = [.Return (some (.Call (.Name "error" fp) [ea, eb] [] cp)) pos] ∧
    notStar ea = true ∧ notStar eb = true ∧ fd.scope.names.lookup ("usage" : Str) = some .local ∧ isGlob (locOf fd.scope ["usage"] [.unb]) ("error" : Str) = true ∧
    ∀ (u : Str) (p : Option Int), u.length ≤ 1000 → isGlob (locOf fd.scope ["usage"] [.val (.str u)]) ("error" : Str) = true ∧ evP k noC false (locOf fd.scope ["usage"] [.val (.str u)]) p ea = .ok (.str (wrongMsg u)) p ∧
      evP k noC false (locOf fd.scope ["usage"] [.val (.str u)]) p eb = .ok wrongCode p

section
variable {prog : Program} {w : World} {A : Around} {H0 : Heap} {mg mb : Str → Option Value} {Cl : Addr}
variable {pa : Option Addr} {p : Option Int} {s : Shared} {E : Value → Shared → Prop}


theorem wrong_call {a : Addr} {o : Obj} {fd : FuncData} {body : List Stmt} {fp : Pos} {ea eb : Expr} {cp pos : Pos} {k : Nat} {u : Str} {v : Value} {Q : Value → Shared → Prop}
    (G : Glo H0 mg mb) (R : RzE H0 mg mb Cl) (Fn : FnAt H0 mg "wrong_args" a o fd body 1 ["usage"]) (hE : enterOk fd.scope ["usage"] = true) (hbody : body = [.Return (some (.Call (.Name "error" fp) [ea, eb] [] cp)) pos])
    (na : notStar ea = true) (nb : notStar eb = true) (hus : fd.scope.names.lookup ("usage" : Str) = some .local)
    (hgl : isGlob (locOf fd.scope ["usage"] [.val (.str u)]) ("error" : Str) = true) (e1 : evP k noC false (locOf fd.scope ["usage"] [.val (.str u)]) p ea = .ok (.str (wrongMsg u)) p) (e2 : evP k noC false (locOf fd.scope ["usage"] [.val (.str u)]) p eb = .ok wrongCode p)
    (hh : A.handled = none) (hU : A.units + 200 < cLine) (hroom : A.depth + 4 < recursionLimit) (st : H0.StaysIn s.heap) (ff : ∀ l, A.frames = some l → FF H0 s.heap l) (hp : PenAt H0 pa p s.heap) (rv : Rd (pens pa) s.heap v (.str u))
    (h : ∀ s' ea hb oe vs, RN H0 pa s s' → PenAt H0 pa p s'.heap → (∀ b, Live s.heap b → Live hb b) → IsCls s'.heap Cl → s'.heap.get? ea = some oe → oe.cls = .ref Cl → oe.data = .fields vs → vs[1]? = some .none → XPc Cl hb s'.heap (.ref ea) ⟨wrongMsg u, wrongCode⟩ → Q (.ref ea) s') :
    wpAny (model prog w) A (call (.ref a) [v]) Q E s := by
  subst hbody
  obtain ⟨aE, oE, fdE, bodyE, FnE, hB⟩ := R.e
  refine wpAny_call ?_
  refine call_fn (fd := fd) (by lia) (st _ _ Fn.at_) Fn.data (R.c.lim.keeps st) (Fn.code.keeps st) Fn.body_ (Fn.bind_ s [v] st rfl) Fn.clo ?_ ?_ Fn.co Fn.gen Fn.kind
  · intro z hz
    refine .inl ?_
    simp only [List.zip_cons_cons, List.zip_nil_right, List.mem_cons, List.not_mem_nil, or_false] at hz
    subst hz
    exact hus
  intro s₁ Xc
  have S₁ := enter_SS (A := A) (lvs := [.val (.str u)]) Fn.gl Fn.bl Fn.kind hE st ff hp (.val rv .nil) Xc
  have ev : EvF prog w (A.deeper (callEnvC fd s.heap.objs.size a)) H0 (XPc Cl) noC (callEnvC fd s.heap.objs.size a) pa k :=
    fun S => (se_all G (by exact hh) (by show A.units + 3 + 100 < cLine; lia) k (.inl fun _ _ _ => rfl) (isR_RN H0 pa) S).1
  refine wpAny_execs_cons (wpAny_Return_some ?_)
  refine wpAny_Call_NameR (glob_sound G S₁.st (isGlobL_inv hgl) FnE.name (callWith_fn (fo := oE) (mem_cns na (mem_cns nb fun _ m => nomatch m)) FnE.data ?_))
  rw [backTo_cons na, backTo_cons nb]
  refine Calls.spliced_cons (ev S₁.st ea _ _ ?_)
  rw [e1]
  intro v1 s₂ r₁ q₁ x₁
  have S₂ := S₁.step r₁ q₁
  refine Calls.spliced_cons (ev S₂.st eb _ _ ?_)
  rw [e2]
  intro v2 s₃ r₂ q₂ x₂
  have S₃ := S₂.step r₂ q₂
  refine Calls.spliced_nil ?_
  refine ⟨S₃.stays _ _ FnE.at_, ?_⟩
  obtain ⟨t', rfl⟩ := (x₁.keep ((isR_RN H0 pa).keepS r₂) fun _ q => q).str_inv
  refine error_call R.c FnE hB S₃.stays (by show A.depth + 1 + 3 < recursionLimit; lia) fun h' tk ea t M => ?_
  have M' := M
  obtain ⟨kk, hn, oe, vs, dx, mA, w1, w2, w3, w4, w5, _⟩ := M'
  have st' : H0.StaysIn h' := fun b o z => kk b o (S₃.stays b o z)
  have S₄ := S₃.keeps (s' := { s₃ with heap := h', toks := tk }) ⟨h', tk, rfl, kk⟩
  obtain ⟨h₅, tk₅, e5⟩ := S₄.shape
  have e6 : h' = h₅ := congrArg Shared.heap e5
  have r : RN H0 pa s { s₃ with heap := h', toks := tk } := ⟨h₅, tk₅, e5, by rw [← e6]; exact S₄.keep, fun _ => by rw [← e6]; exact st'⟩
  exact h _ ea s₃.heap oe vs r S₄.pen (fun b lb => S₃.keep.live lb) (R.c.isCls st') w1 w2 w3 w5 (madeR_XPc M x₂ rfl)
end
end Mine

set_option linter.all false
namespace Mine
open PySem PySem.W PyProof.Rows
section
variable {prog : Program} {w : World} {A : Around} {H0 : Heap} {mg mb : Str → Option Value} {Cl : Addr}
variable {C : CallP} {env : Env} {pa : Option Addr} {B : Heap} {P : Addr → Prop} {s₀ : Shared} {X : Addr → Prop} {oa : Str → Addr} {ρ : Loc} {p : Option Int} {s : Shared} {E : Value → Shared → Prop} {n : Nat} {Q : Flow → Shared → Prop}

theorem st_raise1 {f : Str} {fp cp pos : Pos} {a : Expr} (G : Glo H0 mg mb) (R : RzW H0 mg mb Cl) (hh : A.handled = none) (hU : A.units + 200 < cLine) (hroom : A.depth + 4 < recursionLimit) (ev : EvF prog w A H0 (XPc Cl) C env pa n) (S : SS H0 A env pa B P s₀ noX oa ρ p s)
    (h : XPost H0 A (XPc Cl) env pa B P s₀ Q E (raise1X (evP n C false ρ) ρ p f a)) : wpAny (model prog w) A (exec (.Raise (some (.Call (.Name f fp) [a] [] cp)) none pos) env) Q E s := by
  have h1 := when_x h
  have c1 := Bool.and_eq_true_iff.mp h1.1
  have ha : notStar a = true := notStar_of (bind_stuck h1.2)
  have hf := eq_of_beq c1.1
  refine Classical.byContradiction fun hno => ?_
  obtain ⟨aW, o, fd, body, Fn, hE, fp', ea, eb, cp', pos', k, hbody, na, nb, hus, _, hev⟩ := R.w
  refine hno (raise_inst (C := Cl) hh (wpAny_Call_NameR (glob_sound G S.st (isGlobL_inv c1.2) (hf ▸ Fn.name) (callWith_fn (fo := o) (mem_cns ha fun _ m => nomatch m) Fn.data ?_))))
  rw [backTo_cons ha]
  refine Calls.spliced_cons (seqX S (ev S.st a · E) h1.2 fun v m p₁ s₁ S₁ r₁ x₁ h₁ => Calls.spliced_nil ⟨S₁.stays _ _ Fn.at_, ?_⟩)
  refine Classical.byContradiction fun hno => ?_
  obtain ⟨u, hm, h₃⟩ := ofOpt_x h₁
  obtain rfl := strOf_inv hm
  have h4 := when_x h₃
  have hev := hev u p₁ (of_decide_eq_true h4.1)
  exact hno (wrong_call G R.e Fn hE hbody na nb hus hev.1 hev.2.1 hev.2.2 hh hU hroom S₁.stays S₁.ff S₁.pen x₁ fun s' e hb oe vs r q l ic w1 w2 w3 w4 xp =>
    have S' := S₁.step r q
    ⟨e, oe, vs, rfl, ic, w1, w2, w3, w4, h4.2 _ s' hb S'.shape S'.keep S'.stays q (fun b lb => l b (S₁.keep.live lb)) xp⟩)
end
end Mine

namespace Mine
open PySem PySem.W PyProof.Rows

theorem exc_ga : typeLookup (.type "Exception") "__getattribute__" = pure (some (.builtin "BaseException.__getattribute__")) := by rw [typeLookup_type, builtinLookup_eq_fast]; kernel_rfl
theorem ga_plain : plainId "BaseException.__getattribute__" = true := by decide +kernel
theorem exc_no_getattr : typeLookup (.type "Exception") "__getattr__" = pure none := by rw [typeLookup_type, builtinLookup_eq_fast]; kernel_rfl

section
variable {prog : Program} {w : World} {A : Around} {E : Value → Shared → Prop} {h : Heap} {g : Array GenState} {d : Drawn} {t : Nat} {os : OsState}
variable {nm q : Str} {C N x dx : Addr} {bs : List Value} {sn : List Str} {sub : List Value} {ab : Bool} {col : Option Bool} {dd : Option Addr} {k0 k1 k2 k3 k5 : Option Value} {newId : String}
  {mN mA : Str → Option Value} {name : Str} {v : Value} {o : Obj} {vs : Array Value}

theorem got_check {M : Model} {nameV : Value} {Q : Unit → Shared → Prop} (hC : h.get? C = some (excClassObj nm q C N bs [.type "Exception", .type "BaseException", .type "object"] true sn sub ab col dd k0 k1 k2 k3 k5 newId))
    (hx : h.get? x = some o) (hc : o.cls = .ref C) (hq : Q () ⟨h, g, d, t, os⟩) : wpAny M A (checkBuiltinCall "BaseException.__getattribute__" ⟨[.ref x, nameV], []⟩) Q E ⟨h, g, d, t, os⟩ := by
  have hk : builtinKind "BaseException.__getattribute__" = some .slot := by decide +kernel
  have hsplit : splitId "BaseException.__getattribute__" = some ("BaseException", "__getattribute__") := by decide +kernel
  have hcB : ([Value.ref C, .type "Exception", .type "BaseException", .type "object"] : List Value).contains (.type "BaseException") = true := by rw [List.contains_cons]; rfl
  have ha := PySem.F.args_bexc_ga (.ref x) nameV
  simp only [checkBuiltinCall, hk, hsplit]
  refine wpAny_bind ?_
  · unfold isInstance
    repeat (first | (with_reducible refine wpAny_loadPart_at hx ?_; rw [hc]) | (with_reducible refine wpAny_isSubtype_exc hC ?_; rw [hcB]) | wp_step)
    exact hq

theorem got_entry {tk : Tok} {Q : Fin → Shared → Prop}
    (hC : h.get? C = some (excClassObj nm q C N bs [.type "Exception", .type "BaseException", .type "object"] true sn sub ab col dd k0 k1 k2 k3 k5 newId)) (hn : h.Ns N mN) (hna : mN name = none)
    (hB : typeLookup (.type "Exception") name = pure none) (hx : h.get? x = some o) (hc : o.cls = .ref C) (hvs : o.data = .fields vs) (hdx : o.dict = some dx) (hns : h.Ns dx mA) (hv : mA name = some v) (hq : Q (.done (.ret v)) ⟨h, g, d, t, os⟩) :
    wpAny (model prog w) A (Builtin.«object.__getattribute__» ⟨[.ref x, .str name tk], []⟩) Q E ⟨h, g, d, t, os⟩ := by
  have hnc : ∀ c, o.data ≠ .cls c := fun c e => by rw [hvs] at e; cases e
  unfold Builtin.«object.__getattribute__»
  repeat (first | (with_reducible refine wpAny_loadPart_at hx ?_; rw [hc]) | (with_reducible refine wpAny_typeLookup_exc hC hn PySem.F.excBase_Exception.mroIs hB ?_; rw [hna]) | wp_step)
  have hinst : ∀ {Q : Option Addr → Shared → Prop} {E : Value → Shared → Prop}, Q (some dx) ⟨h, g, d, t, os⟩ → wpAny (model prog w) A (match o.data with | .cls c => pure (some c.ns) | _ => instanceDict x false) Q E ⟨h, g, d, t, os⟩ := by
    intro Q E hq
    split
    · rename_i c hcd
      exact absurd hcd (hnc c)
    unfold instanceDict
    repeat (first | (with_reducible refine wpAny_loadPart_at hx ?_; rw [hc]) | with_reducible refine wpAny_loadPart_at hC ?_ | wp_step)
    rw [hdx]
    exact wpAny_pure hq
  refine hinst ?_
  unfold Builtin.ObjectAttr.inDict
  repeat (first | (with_reducible refine wpAny_nsGet hns ?_; rw [hv]) | wp_step)
  exact hq

theorem got_attr {expr : Bool} {Q : Value → Shared → Prop}
    (hC : h.get? C = some (excClassObj nm q C N bs [.type "Exception", .type "BaseException", .type "object"] true sn sub ab col dd k0 k1 k2 k3 k5 newId)) (hn : h.Ns N mN) (hng : mN "__getattribute__" = none) (hng2 : mN "__getattr__" = none) (hna : mN name = none)
    (hB : typeLookup (.type "Exception") name = pure none) (hx : h.get? x = some o) (hc : o.cls = .ref C) (hvs : o.data = .fields vs) (hdx : o.dict = some dx) (hns : h.Ns dx mA) (hv : mA name = some v) (hh : handedOut v = pure v) (hq : Q v ⟨h, g, d, t + 1, os⟩) :
    wpAny (model prog w) A (getAttr (.ref x) name expr) Q E ⟨h, g, d, t, os⟩ := by
  have hx0 : (expr && onTheHeap (Value.builtin "BaseException.__getattribute__")) = false := by cases expr <;> rfl
  have hx2 : (Value.builtin "BaseException.__getattribute__" == Value.builtin "object.__getattribute__") = false := by decide +kernel
  have hx1 : (onTheHeap (Value.ref C) && Value.builtin "BaseException.__getattribute__" == Value.builtin "object.__getattribute__") = false := by rw [hx2, Bool.and_false]
  unfold getAttr getAttrBy
  repeat (any_goals (first | assumption | (with_reducible refine wpAny_loadPart_at hx ?_; rw [hc]) | (with_reducible refine wpAny_typeLookup_exc hC hn PySem.F.excBase_Exception.mroIs exc_ga ?_; rw [hng]) | (with_reducible refine wpAny_typeLookup_exc hC hn PySem.F.excBase_Exception.mroIs exc_no_getattr ?_; rw [hng2]) | wp_step))
  have hbind : bindSpecial (.builtin "BaseException.__getattribute__") (.ref x) = pure (.builtin "BaseException.__getattribute__", [.ref x]) := by
    have hk : builtinKind "BaseException.__getattribute__" = some .slot := by decide +kernel
    have hop : withoutEnding? "BaseException.__getattribute__" "#opaque" = none := by decide +kernel
    have hdat : withoutEnding? "BaseException.__getattribute__" "#data" = none := by decide +kernel
    simp only [bindSpecial, typeOf, builtinType, hop, hdat, hk]; rfl
  rw [hbind]
  refine wpAny_pure ?_
  refine wpAny_call (codeAny_call_builtin ga_plain PySem.F.entry_bexc_ga (got_check hC hx hc (got_entry hC hn hna hB hx hc hvs hdx hns hv ?_)))
  show wpAny _ _ (handedOut v) _ _ _
  rw [hh]
  exact wpAny_pure hq
end
end Mine

namespace Mine
open PySem PySem.W PyProof.Rows
open Sem (wp)

section
variable {M : Model} {A : Around} {E : Value → Shared → Prop} {s : Shared}

/-- a name goes; the frame's class is told -/
theorem nsDel_cls {a : Addr} {m : Str → Option Value} {name : Str} {c : Value} {Q : Bool → Shared → Prop} (hn : s.heap.Ns a m) (hc : ∃ o, s.heap.get? a = some o ∧ o.cls = c)
    (hQ : ∀ h', Heap.SameBut a s.heap h' → (∃ m', h'.Ns a m') → (∃ o, h'.get? a = some o ∧ o.cls = c ∧ NonRec o) → Q (m name).isSome { s with heap := h' }) : wpAny M A (nsDel a name) Q E s := by
  intro Γ pp hΓ
  have h := wpAny_nsDel_keeps (M := M) (A := A) (E := E) (name := name) hn (Q := fun b s' => b = (m name).isSome ∧ ∃ h', s' = { s with heap := h' } ∧ Heap.SameBut a s.heap h' ∧ ∃ m', h'.Ns a m') (fun h' v x y => ⟨rfl, h', rfl, y, _, x⟩) Γ pp hΓ
  obtain ⟨o, ho, hcls⟩ := hc
  obtain ⟨o₀, es, ep, ho₀, hd, _⟩ := id hn
  rw [ho] at ho₀; cases ho₀
  have fin : ∀ b h', b = (m name).isSome → Heap.SameBut a s.heap h' → (∃ m', h'.Ns a m') → (∃ o, h'.get? a = some o ∧ o.cls = c) → Q b { s with heap := h' } := by
    rintro b h' rfl hs ⟨m', hm'⟩ ⟨o', ho', hc'⟩
    refine hQ h' hs ⟨m', hm'⟩ ⟨o', ho', hc', ?_⟩
    obtain ⟨o'', es, ep, e, hd, _⟩ := hm'
    rw [ho'] at e; cases e
    exact nonRec_dict hd
  rw [nsDel_eq] at h ⊢
  obtain ⟨o', ho', h⟩ := h
  rw [ho] at ho'; cases ho'
  refine ⟨o, ho, ?_⟩
  obtain ⟨cl, d, dt, sl⟩ := o
  obtain rfl : dt = .dict es ep := hd
  unfold nsHas at h ⊢
  dsimp only at h ⊢
  generalize nsNameIn name.cps.size name.cps.toList es.toList false = r at h ⊢
  obtain ⟨r1, r2⟩ := r
  cases r1 with
  | some i =>
    obtain ⟨h1, h2, h', h3, h4, h5⟩ := h
    refine ⟨h1, ?_⟩
    have e : h' = s.heap.update a (Obj.dropName name) := (congrArg Shared.heap h3).symm
    subst e
    refine fin _ _ h2 h4 h5 ⟨_, Heap.get?_update_self _ ho ?_, ?_⟩
    · simp only [Obj.dropName_eq, Obj.dropNameByArray]
      split <;> rfl
    · simp only [Obj.dropName_eq, Obj.dropNameByArray]
      split <;> exact hcls
  | none =>
    cases r2 with
    | true => exact h.elim
    | false =>
      obtain ⟨h2, h', h3, h4, h5⟩ := h
      have e : h' = s.heap := (congrArg Shared.heap h3).symm
      subst e
      exact fin _ _ h2 h4 h5 ⟨_, ho, hcls⟩

/-- behind a suite the fault's name goes -/
theorem nameGoes_cls {env : Env} {n : Str} {pos : Pos} {m : Str → Option Value} {c : Value} {Q : Unit → Shared → Prop} (hl : env.kindOf n = some .local) (hn : s.heap.Ns env.locals m) (hc : ∃ o, s.heap.get? env.locals = some o ∧ o.cls = c)
    (hp : (env.scope.kind == .class || (env.scope.kind == .module && env.locals != env.globals)) = false)
    (h : ∀ h', Heap.SameBut env.locals s.heap h' → (∃ m', h'.Ns env.locals m') → (∃ o, h'.get? env.locals = some o ∧ o.cls = c ∧ NonRec o) → Q () { s with heap := h', toks := s.toks + 1 }) :
    wpAny M A (do bindName env n .none; unbindBehindTheSuite env n pos) Q E s := by
  refine wpAny_bind (wpAny_bindName ?_)
  rw [storeName_local hl hp]
  refine fun Γ pp hΓ => wp_nsSet_cls _ Γ _ pp s hn hc n .none _ fun h₁ hn₁ hs₁ hc₁ => ?_
  show wpAny M A (unbindBehindTheSuite env n pos) Q E { s with heap := h₁, toks := s.toks + 1 }
  unfold unbindBehindTheSuite
  refine wpAny_onRaise ?_
  unfold unbindName
  refine wpAny_bind (wpAny_point (wpAny_bind ?_))
  unfold deleteName
  rw [hl]
  refine wpAny_ite_false (by rw [hp]; rfl) ?_
  obtain ⟨o₁, ho₁, hcl₁, _⟩ := hc₁
  refine wpAny_bind (nsDel_cls hn₁ ⟨o₁, ho₁, hcl₁⟩ fun h₂ hs₂ hn₂ hc₂ => ?_)
  exact wpAny_ite_false (by rw [if_pos rfl]; rfl) (wpAny_pure (wpAny_point (h h₂ (hs₁.trans hs₂) hn₂ hc₂)))

theorem flight0_X {H0 : Heap} {C : Addr} {hb : Heap} {x : Exc} {e : Value} {Q : Unit → Shared → Prop} (st : H0.StaysIn s.heap) (hl : ∀ b, Live H0 b → Live hb b) (H : XR C hb s.heap e x)
    (h : ∀ h', XR C hb h' e x → Chg hb s.heap h' → H0.StaysIn h' → Q () { s with heap := h' }) : wpAny M A (setFlight e none) Q E s := by
  obtain ⟨ea, oe, vs, rfl, H, h1 | ⟨T, oT, ts, h1, lT, hTe, hT, hcT, hdT, h3⟩⟩ := H
  · unfold setFlight
    refine wpAny_bind (wpAny_field H.at_ H.data h1 ?_)
    rw [if_neg (by decide)]
    exact wpAny_pure (h s.heap ⟨ea, oe, vs, rfl, H, .inl h1⟩ (fun b o e _ => .inl e) st)
  · have hsz3 : 3 < ts.size := (Array.getElem?_eq_some_iff.mp h3).1
    have other : ∀ b, b ≠ T → (s.heap.update T (Obj.mapFields (·.setIfInBounds 3 ((none : Option Addr).elim Value.none fun f => rawInt f)))).get? b = s.heap.get? b :=
      fun b hb => Heap.get?_update_other _ _ (Ne.symm hb)
    unfold setFlight
    refine wpAny_bind (wpAny_field H.at_ H.data h1 ?_)
    rw [if_pos (show (Value.ref T != Value.none) = true from by simp)]
    refine wpAny_setField hT hdT hsz3 (h _ ⟨ea, oe, vs, rfl, H.tb hT hcT hdT other, .inr ⟨T, _, _, h1, lT, hTe, Heap.get?_update_self _ hT (Obj.isFreed_of_fields (Obj.data_mapFields hdT _)), (Obj.cls_mapFields _ _).trans hcT, Obj.data_mapFields hdT _, by simp [hsz3]⟩⟩ ?_ ?_)
    · exact fun b o e lb => .inl ((other b fun q => by subst q; exact lT lb).trans e)
    · exact fun b o e => (other b fun q => by subst q; exact lT (hl _ ⟨o, e⟩)).trans (st b o e)

theorem PenAt.chg {H0 hb h h' : Heap} {pa : Option Addr} {p : Option Int} (q : PenAt H0 pa p h) (c : Chg hb h h') (l : ∀ b, pens pa b → Live hb b) : PenAt H0 pa p h' := by
  match pa, p, q with
  | none, none, _ => trivial
  | some a, some n, ⟨⟨t, o, ho, hc, r⟩, z⟩ =>
    rcases c a o ho (l a rfl) with x | ⟨f, _⟩
    · exact ⟨⟨t, o, x, hc, r⟩, z⟩
    · exact absurd f (cls_ne hc (by decide))
theorem PenAt.live {H0 h : Heap} {pa : Option Addr} {p : Option Int} (q : PenAt H0 pa p h) : ∀ b, pens pa b → Live h b := by
  intro b hb
  unfold pens at hb; subst hb
  cases p with
  | none => exact q.elim
  | some n => obtain ⟨⟨t, o, ho, _⟩, _⟩ := q; exact ⟨o, ho⟩
end

/-- what the exception's dict says, read by name -/
inductive XAttr (C : Addr) (h : Heap) (ea : Addr) (x : Exc) : Prop
  | mk (oe : Obj) (vs : Array Value) (dx : Addr) (mA : Str → Option Value) (t1 t2 : Tok) (v : Value) : h.get? ea = some oe → oe.cls = .ref C → oe.data = .fields vs → oe.dict = some dx → h.Ns dx mA → mA "code" = some (.int 1 t1) → mA "value" = some (.str x.msg t2) → mA "errorcode" = some v → Reads h v x.code [] → XAttr C h ea x

structure RzT (H0 : Heap) (mg mb : Str → Option Value) (C : Addr) : Prop where
  c : RzC H0 mg mb C
  get : ∃ N mN, IsC H0 C N ∧ H0.Ns N mN ∧ mN "__getattribute__" = none ∧ mN "__getattr__" = none ∧ ∀ a ∈ quietNames, mN a = none

section
variable {prog : Program} {w : World} {A : Around} {H0 : Heap} {mg mb : Str → Option Value} {Cl : Addr} {E : Value → Shared → Prop} {s : Shared} {env : Env} {Q : Value → Shared → Prop}

theorem attr_eval {x a : Str} {np pos : Pos} {m : Str → Option Value} {ea : Addr} {oe : Obj} {vs : Array Value} {dx : Addr} {mA : Str → Option Value} {v : Value} (R : RzT H0 mg mb Cl) (st : H0.StaysIn s.heap) (hk : env.scope.kind = .function) (hl : env.kindOf x = some .local) (hd : (x == ("__debug__" : Str)) = false)
    (hn : s.heap.Ns env.locals m) (hm : m x = some (.ref ea)) (hx : s.heap.get? ea = some oe) (hc : oe.cls = .ref Cl) (hvs : oe.data = .fields vs) (hdx : oe.dict = some dx) (hns : s.heap.Ns dx mA) (hv : mA a = some v) (hq : a ∈ quietNames) (hh : handedOut v = pure v)
    (k : Q v { s with toks := s.toks + 1 }) : wpAny (model prog w) A (eval (.Attribute (.Name x np) a pos) env) Q E s := by
  refine Classical.byContradiction fun hno => ?_
  obtain ⟨N, mN, hC, hN, g1, g2, g3⟩ := R.get
  obtain ⟨nm, q, bs, sn, sub, ab, col, dd, k0, k1, k2, k3, k5, hC⟩ := hC
  obtain ⟨h, g, d, t, os⟩ := s
  refine hno (Attribute_name (wpAny_Name (wpAny_loadName_local hk hl hn hm ?_) hd))
  exact got_attr (st _ _ hC) (hN.keeps st) g1 g2 (g3 a hq) (quiet_look a hq) hx hc hvs hdx hns hv hh k

theorem handedOut_reads {h : Heap} {v : Value} {d : PyData} {as : List Addr} (r : Reads h v d as) : handedOut v = pure v := by
  cases r <;> rfl
end
end Mine

set_option linter.all false
namespace Mine
open PySem PySem.W PyProof.Rows
open Sem (wp)

section
variable {prog : Program} {w : World} {A : Around} {H0 : Heap} {mg mb : Str → Option Value} {Cl : Addr}
variable {C : CallP} {env : Env} {pa : Option Addr} {B : Heap} {P : Addr → Prop} {s₀ : Shared} {X : Addr → Prop} {oa : Str → Addr} {ρ : Loc} {p : Option Int} {s : Shared} {E : Value → Shared → Prop} {n : Nat} {Q : Flow → Shared → Prop}

theorem but_frame {h h' : Heap} {L : Addr} (hs : Heap.SameBut L h h') (hL : ∃ o, h.get? L = some o ∧ o.cls = .type "frame" ∧ NonRec o) : ∀ b o, h.get? b = some o → o.cls ≠ .type "frame" → h'.get? b = some o := fun b o e hc =>
  hL.elim fun oL z => (hs.2 b fun q => by rw [q, z.1] at e; cases e; exact hc z.2.1).trans e

/-- the fault's attributes live on when its name is bound -/
theorem XHolds.put {hb h h' : Heap} {L ea : Addr} {oe : Obj} {vs : Array Value} {m : Str → Option Value} {x : Str} {v : Value} {xx : Exc} (X : XHolds Cl hb h ea oe vs xx) (hs : Heap.SameBut L h h') (hL : ∃ o, h.get? L = some o ∧ o.cls = .type "frame" ∧ NonRec o) (hn : h.Ns L m) (hn' : h'.Ns L (fun y => if y = x then some v else m y))
    (hxn : ∀ a ∈ (["code", "value", "errorcode"] : List Str), a ≠ x) : XAttr Cl h' ea xx := by
  have k := but_frame hs hL
  obtain ⟨dx, mA, hdx, hns, ⟨t1, m1⟩, ⟨t2, m2⟩, v3, m3, r3⟩ := X.dict
  have hat := k _ _ X.at_ (by rw [X.cls]; intro q; cases q)
  have r := reads_but k r3
  by_cases hd : dx = L
  · subst hd
    obtain ⟨o1, es1, ep1, ho1, hd1, _, hm1⟩ := hn
    obtain ⟨o2, es2, ep2, ho2, hd2, _, hm2⟩ := hns
    rw [ho1] at ho2; cases ho2
    rw [hd1] at hd2; cases hd2
    have e : ∀ a ∈ (["code", "value", "errorcode"] : List Str), (if a = x then some v else m a) = mA a := fun a ha => by rw [if_neg (hxn a ha), ← hm1, ← hm2]
    exact ⟨oe, vs, dx, _, t1, t2, v3, hat, X.cls, X.data, hdx, hn', (e _ (.head _)).trans m1, (e _ (.tail _ (.head _))).trans m2, (e _ (.tail _ (.tail _ (.head _)))).trans m3, r⟩
  · exact ⟨oe, vs, dx, mA, t1, t2, v3, hat, X.cls, X.data, hdx, (hns.elim fun o z => z.elim fun es z => z.elim fun ep z => ⟨o, es, ep, (hs.2 dx hd).trans z.1, z.2⟩), m1, m2, m3, r⟩

theorem fault_store {K : Unit → Shared → Prop} {E' : Value → Shared → Prop} {A' : Around} {hb : Heap} {ea : Addr} {oe : Obj} {vs : Array Value} {x : Str} {xx : Exc} (S : SS H0 A env pa B P s₀ noX oa ρ p s) (hlk : env.kindOf x = some .local) (X : XHolds Cl hb s.heap ea oe vs xx)
    (hxn : ∀ a ∈ (["code", "value", "errorcode"] : List Str), a ≠ x) (k : ∀ h' m' tk, SS H0 A env pa B P s₀ noX oa [] p { s with heap := h', toks := tk } → h'.Ns env.locals m' → m' x = some (.ref ea) → XAttr Cl h' ea xx → K () { s with heap := h', toks := tk }) :
    wpAny (model prog w) A' (storeName env x (.ref ea)) K E' s := by
  rw [storeName_local hlk (storable_kind S)]
  exact S.names.elim fun m z => S.lcls.elim fun oL l => fun Γ pp hΓ => wp_nsSet_cls _ Γ _ pp s z.1 ⟨oL, l.1, l.2.1⟩ x _ _ fun h' hn' hs hc =>
    k h' _ _ (S.names_only (fun b o hb e => (hs.2 b hb).trans e) hn' hc (fun x lv q => nomatch q) (fun x lv q => nomatch q) (fun x xs q => nomatch q) (fun x xs y ys q => nomatch q)) hn' (if_pos rfl) (X.put hs S.lcls z.1 hn' hxn)

theorem fault_tuple {K : Value → Shared → Prop} {A' : Around} {x g : Str} {kg kt : Nat} {p1 p2 p3 q1 q2 q3 gp tp : Pos} {m : Str → Option Value} {ea : Addr} {xx : Exc} (R : RzT H0 mg mb Cl) (st : H0.StaysIn s.heap) (hk : env.scope.kind = .function) (hlk : env.kindOf x = some .local) (hdb : (x == ("__debug__" : Str)) = false)
    (hn : s.heap.Ns env.locals m) (hm : m x = some (.ref ea)) (X : XAttr Cl s.heap ea xx) (k : ∀ o tk, Rd (pens pa) (s.heap.push o) (.ref s.heap.objs.size) (.tuple [.str g, .int 1, .str xx.msg, xx.code]) → K (.ref s.heap.objs.size) { s with heap := s.heap.push o, toks := tk }) :
    wpAny (model prog w) A' (eval (.Tuple [.Constant (.str g) kg gp, .Attribute (.Name x p1) "code" q1, .Attribute (.Name x p2) "value" q2, .Attribute (.Name x p3) "errorcode" q3] kt tp) env) K E s := by
  refine Classical.byContradiction fun hno => ?_
  obtain ⟨oe, vs, dx, mA, t1, t2, v, hat, hc, hd, hdx, hns, m1, m2, m3, r⟩ := X
  refine hno (Tuple_ ?_)
  rw [backTo_cons rfl, backTo_cons rfl, backTo_cons rfl, backTo_cons rfl]
  refine Calls.spliced_cons (wpAny_Constant_str (Calls.spliced_cons (attr_eval (s := { s with toks := s.toks + 1 }) R st hk hlk hdb hn hm hat hc hd hdx hns m1 (.head _) rfl (Calls.spliced_cons (attr_eval (s := { s with toks := s.toks + 1 + 1 }) R st hk hlk hdb hn hm hat hc hd hdx hns m2 (.tail _ (.head _)) rfl
    (Calls.spliced_cons (attr_eval (s := { s with toks := s.toks + 1 + 1 + 1 }) R st hk hlk hdb hn hm hat hc hd hdx hns m3 (.tail _ (.tail _ (.head _))) (handedOut_reads r) (Calls.spliced_nil (wpAny_newObj_type (k _ _ ?_) (by show (4 : Nat) ≤ sizeLine; decide))))))))))
  exact Rd.tuple (isTuple_push _) (Rds.cons (.str _ _) (Rds.cons (.int _ _) (Rds.cons (.str _ _) (Rds.cons (.of (reads_but (fun b o e _ => Heap.get?_push_of_some _ e) r)) .nil))))

theorem fault_end {K : Unit → Shared → Prop} {E' : Value → Shared → Prop} {A' : Around} {x : Str} {hp : Pos} {v : Value} {d : PyData} (S : SS H0 A env pa B P s₀ noX oa [] p s) (hlk : env.kindOf x = some .local) (rv : Rd (pens pa) s.heap v d)
    (k : ∀ h' tk, SS H0 A env pa B P s₀ noX oa [] p { s with heap := h', toks := tk } → Rd (pens pa) h' v d → K () { s with heap := h', toks := tk }) : wpAny (model prog w) A' (do bindName env x .none; unbindBehindTheSuite env x hp) K E' s :=
  S.names.elim fun m z => S.lcls.elim fun oL l => nameGoes_cls hlk z.1 ⟨oL, l.1, l.2.1⟩ (storable_kind S) fun h' hs hn hc => hn.elim fun m' hn' =>
    k h' _ (S.names_only (fun b o hb e => (hs.2 b hb).trans e) hn' hc (fun x lv q => nomatch q) (fun x lv q => nomatch q) (fun x xs q => nomatch q) (fun x xs y ys q => nomatch q)) (rv.elim fun as r => ⟨as, reads_but (but_frame hs S.lcls) r.1, r.2⟩)

theorem handled {x g : Str} {kg kt : Nat} {fp p1 p2 p3 q1 q2 q3 gp tp rp2 hp : Pos} {h₃ hb : Heap} {tk₁ : Nat} {p₁ : Option Int} {ea : Addr} {xx : Exc} (G : Glo H0 mg mb) (R : RzT H0 mg mb Cl) (S : SS H0 A env pa B P s₀ noX oa ρ p s) (c2 : isGlob ρ "Raised" = true) (hlk : env.kindOf x = some .local) (hdb : (x == ("__debug__" : Str)) = false)
    (hxn : ∀ a ∈ (["code", "value", "errorcode"] : List Str), a ≠ x) (k : KeepS (pens pa) s.heap h₃) (st : H0.StaysIn h₃) (q : PenAt H0 pa p₁ h₃) (l : ∀ b, Live s.heap b → Live hb b) (X : XR Cl hb h₃ (.ref ea) xx)
    (h : XPost H0 A (XPc Cl) env pa B P s₀ Q E (.ok (.ret (.tuple [.str g, .int 1, .str xx.msg, xx.code]), []) p₁)) :
    wpAny (model prog w) A (handleBy (.ref ea) env [.ExceptHandler (some (.Name "Raised" fp)) (some x) [.Return (some (.Tuple [.Constant (.str g) kg gp, .Attribute (.Name x p1) "code" q1, .Attribute (.Name x p2) "value" q2, .Attribute (.Name x p3) "errorcode" q3] kt tp)) rp2] hp]) Q E { s with heap := h₃, toks := tk₁ } := by
  have S₃ : SS H0 A env pa B P s₀ noX oa ρ p₁ { s with heap := h₃, toks := tk₁ } := S.step ⟨h₃, tk₁, rfl, k, fun _ => st⟩ q
  have hl0 : ∀ b, Live H0 b → Live hb b := fun b z => l b (z.elim fun o ho => ⟨o, S.stays b o ho⟩)
  refine wpAny_handleBy_cons (codeAny_handlers_test (glob_sound (A := A.mark (some (.ref ea))) (oa := oa) (pa := pa) (p := p₁) G ⟨S₃.stays, S₃.st.fr, S₃.pen, S₃.ff⟩ (isGlobL_inv c2) R.c.raised ?_)) (fun q => nomatch q)
  refine Classical.byContradiction fun hno => ?_
  obtain ⟨ea', oe₃, vs₃, e3, X₃, _⟩ := id X
  cases e3
  obtain ⟨N, nm, qq, bs, sn, sub, ab, col, dd, k0, k1, k2, k3, k5, hC⟩ := R.c.isCls st
  refine hno (wpAny_excMatches_sub_self hC X₃.at_ X₃.cls rfl (codeAny_handlers_suite_as (flight0_X (s := { s with heap := h₃, toks := tk₁ }) st hl0 X fun h₄ n₄ c₄ st₄ => ?_)))
  have S₄ : SS H0 A env pa B P s₀ noX oa ρ p₁ { s with heap := h₄, toks := tk₁ } := S.step ⟨h₄, tk₁, rfl, c₄.keepS k l, fun _ => st₄⟩ (q.chg c₄ fun b hbp => l b (S.pen.live b hbp))
  refine Classical.byContradiction fun hno => ?_
  obtain ⟨ea', oe, vs, e4, X₄, _⟩ := n₄
  cases e4
  refine hno (fault_store (s := { s with heap := h₄, toks := tk₁ }) S₄ hlk X₄ hxn fun h₅ m₅ tk₅ S₅ hn₅ hm₅ A₅ => wpAny_execs_cons (wpAny_Return_some (fault_tuple (pa := pa) R S₅.stays S.kind hlk hdb hn₅ hm₅ A₅ fun o tk rt => ?_)))
  have S₆ := S₅.keeps (s' := { s with heap := h₅.push o, toks := tk }) ⟨_, _, rfl, fun b o e => Heap.get?_push_of_some _ e⟩
  exact fault_end S₆ hlk rt fun h' tk S₇ rv => h (.ret (.ref h₅.objs.size)) _ oa S₇ rv

theorem caught {g : Str} {r : Res PyData} {K : Value → Shared → Prop} {E' : Value → Shared → Prop} (S : SS H0 A env pa B P s₀ noX oa ρ p s) (h : XPost H0 A (XPc Cl) env pa B P s₀ Q E (tryR r ρ g)) (ok : ∀ v s', Q (.ret v) s' → K v s')
    (er : ∀ xx p₁ e s' hb, RN H0 pa s s' → PenAt H0 pa p₁ s'.heap → (∀ b, Live s.heap b → Live hb b) → XPc Cl hb s'.heap e xx → XPost H0 A (XPc Cl) env pa B P s₀ Q E (.ok (.ret (.tuple [.str g, .int 1, .str xx.msg, xx.code]), []) p₁) → E' e s') : GPost H0 (XPc Cl) (RN H0 pa) pa (Rd (pens pa)) K E' s r := by
  cases r with
  | stuck => exact h.elim
  | ok d p₁ => exact fun v s₁ r q xv => ok _ _ (h (.ret v) s₁ oa (S.step r q) xv)
  | err xx p₁ => exact fun e s₁ hb r q l xp => er xx p₁ e s₁ hb r q l xp h

theorem st_try_at {x g : Str} {kg kt : Nat} {rp fp p1 p2 p3 q1 q2 q3 gp tp rp2 hp pos : Pos} {e : Expr} {outer : List Env} {L : Addr} (G : Glo H0 mg mb) (R : RzT H0 mg mb Cl) (hfr : A.frames = some (env :: outer)) (hf : env.frame = some L)
    (ev : EvF prog w A H0 (XPc Cl) C env pa n) (S : SS H0 A env pa B P s₀ noX oa ρ p s) (c2 : isGlob ρ "Raised" = true) (c3 : isLocal ρ x = true) (c10 : (!((["code", "value", "errorcode"] : List Str).contains x)) = true)
    (h : XPost H0 A (XPc Cl) env pa B P s₀ Q E (tryR (evP n C false ρ p e) ρ g)) :
    wpAny (model prog w) A (exec (.Try [.Return (some e) rp] [.ExceptHandler (some (.Name "Raised" fp)) (some x) [.Return (some (.Tuple [.Constant (.str g) kg gp, .Attribute (.Name x p1) "code" q1, .Attribute (.Name x p2) "value" q2, .Attribute (.Name x p3) "errorcode" q3] kt tp)) rp2] hp] [] [] pos) env) Q E s :=
  wpAny_Try_except (wpAny_execs_cons (wpAny_Return_some (ev S.st e _ _ (caught S h (fun _ _ z => z) fun xx p₁ e' s₁ hb r q l xp h => by
    have hl0 : ∀ b, Live H0 b → Live hb b := fun b z => l b (z.elim fun o ho => ⟨o, S.stays b o ho⟩)
    have hxn : ∀ a ∈ (["code", "value", "errorcode"] : List Str), a ≠ x := fun a ha e => by rw [← e, List.contains_iff_mem.mpr ha] at c10; cases c10
    have hdb : (x == ("__debug__" : Str)) = false := (isLocal_look c3).elim fun l z => S.nodebug _ _ z.1
    have pl : ∀ b, pens pa b → Live hb b := fun b hbp => l b (S.pen.live b hbp)
    refine Classical.byContradiction fun hno => ?_
    obtain ⟨h₁, tk₁, rfl, k₁, stt⟩ := r
    refine hno (note_X hfr ((S.ff _ hfr).keep k₁) hf (stt S.stays) hl0 xp.2 xp.1 fun h₂ n₂ c₂ st₂ => flight_X (s := { s with heap := h₂, toks := tk₁ }) st₂ hl0 n₂ fun h₃ n₃ c₃ st₃ => ?_)
    refine Classical.byContradiction fun hno => ?_
    obtain ⟨ea, oe, vs, rfl, n4⟩ := id n₃
    exact hno (handled (s := s) (h₃ := h₃) (tk₁ := tk₁) G R S c2 (local_kind S c3) hdb hxn ((c₂.trans c₃).keepS k₁ l) st₃ (q.chg (c₂.trans c₃) pl) l n₃ h)))))

theorem TryS.inv {t : TryS} (h : t.ok ρ = true) : t = ⟨"Raised", t.x, t.g, t.x, "code", t.x, "value", t.x, "errorcode"⟩ ∧ isGlob ρ "Raised" = true ∧ isLocal ρ t.x = true ∧ (!((["code", "value", "errorcode"] : List Str).contains t.x)) = true := by
  obtain ⟨f, x, g, x1, a1, x2, a2, x3, a3⟩ := t
  have h9 := Bool.and_eq_true_iff.mp h
  have h8 := Bool.and_eq_true_iff.mp h9.1
  have h7 := Bool.and_eq_true_iff.mp h8.1
  have h6 := Bool.and_eq_true_iff.mp h7.1
  have h5 := Bool.and_eq_true_iff.mp h6.1
  have h4 := Bool.and_eq_true_iff.mp h5.1
  have h3 := Bool.and_eq_true_iff.mp h4.1
  have h2 := Bool.and_eq_true_iff.mp h3.1
  have h1 := Bool.and_eq_true_iff.mp h2.1
  have e1 : f = "Raised" := eq_of_beq h1.1
  have e2 : x1 = x := eq_of_beq h3.2
  have e3 : x2 = x := eq_of_beq h4.2
  have e4 : x3 = x := eq_of_beq h5.2
  have e5 : a1 = "code" := eq_of_beq h6.2
  have e6 : a2 = "value" := eq_of_beq h7.2
  have e7 : a3 = "errorcode" := eq_of_beq h8.2
  exact ⟨by rw [e1, e2, e3, e4, e5, e6, e7], e1 ▸ h1.2, h2.2, h9.2⟩
end
end Mine

set_option linter.all false
namespace Mine
open PySem PySem.W PyProof.Rows

theorem asComp_inv {e : Expr} {c : Expr × List Comprehension × Scope × Pos} (h : asComp e = some c) : e = .ListComp c.1 c.2.1 c.2.2.1 c.2.2.2 := val_inv (o := (vw e).cm) h
theorem asTup_inv {e : Expr} {c : List Expr × Nat × Pos} (h : asTup e = some c) : e = .Tuple c.1 c.2.1 c.2.2 := val_inv (o := (vw e).tp) h
theorem asHand_inv {s : ExceptHandler} {a : Expr × Str × List Stmt × Pos} (h : asHand s = some a) : s = .ExceptHandler (some a.1) (some a.2.1) a.2.2.1 a.2.2.2 := by
  cases s with
  | ExceptHandler t n b q => obtain ⟨e, he, h⟩ := bind_inv h; obtain ⟨y, hy, h⟩ := bind_inv h; cases h; rw [he, hy]
theorem asStrC_inv {e : Expr} {a : Str × Nat × Pos} (h : asStrC e = some a) : e = .Constant (.str a.1) a.2.1 a.2.2 :=
  bind_go h fun c hc h => bind_go h fun x hx h => by rw [asConst_inv hc, strC_inv hx, ← Option.some.inj h]
theorem asApp_inv {v : Expr} {a : (Str × Pos × Str × Pos) × Expr × Pos} (h : asApp v = some a) : v = .Call (.Attribute (.Name a.1.1 a.1.2.1) a.1.2.2.1 a.1.2.2.2) [a.2.1] [] a.2.2 := by
  obtain ⟨c, hc, h⟩ := bind_inv h
  obtain ⟨b, hb, h⟩ := bind_inv h
  obtain ⟨e, he, h⟩ := bind_inv h
  exact Option.some.inj h ▸ (asCall_inv hc).trans (by rw [asNameAttr_inv hb, one_inv he])
theorem four_inv {es : List Expr} {q : Expr × Expr × Expr × Expr} (hq : tupOf4 es = some q) : es = [q.1, q.2.1, q.2.2.1, q.2.2.2] := by
  cases es with
  | nil => cases hq
  | cons a r =>
    cases r with
    | nil => cases hq
    | cons b r => exact (bind_inv hq).elim fun cd z => Option.some.inj z.2 ▸ two_inv z.1 ▸ rfl
theorem asFour_inv {e : Expr} {a : (Str × Nat × Pos) × (Str × Pos × Str × Pos) × (Str × Pos × Str × Pos) × (Str × Pos × Str × Pos) × Nat × Pos} (h : asFour e = some a) :
    e = .Tuple [.Constant (.str a.1.1) a.1.2.1 a.1.2.2, .Attribute (.Name a.2.1.1 a.2.1.2.1) a.2.1.2.2.1 a.2.1.2.2.2, .Attribute (.Name a.2.2.1.1 a.2.2.1.2.1) a.2.2.1.2.2.1 a.2.2.1.2.2.2, .Attribute (.Name a.2.2.2.1.1 a.2.2.2.1.2.1) a.2.2.2.1.2.2.1 a.2.2.2.1.2.2.2] a.2.2.2.2.1 a.2.2.2.2.2 := by
  refine Classical.byContradiction fun hno => ?_
  obtain ⟨t, ht, h⟩ := bind_inv h
  obtain ⟨q, hq, h⟩ := bind_inv h
  obtain ⟨g, hg, h⟩ := bind_inv h
  obtain ⟨x, hx, h⟩ := bind_inv h
  obtain ⟨y, hy, h⟩ := bind_inv h
  obtain ⟨z, hz, h⟩ := bind_inv h
  exact hno (Option.some.inj h ▸ (asTup_inv ht).trans (by rw [four_inv hq, asStrC_inv hg, asNameAttr_inv hx, asNameAttr_inv hy, asNameAttr_inv hz]))
theorem asExc_inv {hs : List ExceptHandler} {a : (Str × Pos) × Str × (Expr × Pos) × Pos} (h : asExc hs = some a) : hs = [.ExceptHandler (some (.Name a.1.1 a.1.2)) (some a.2.1) [.Return (some a.2.2.1.1) a.2.2.1.2] a.2.2.2] := by
  obtain ⟨t, ht, h⟩ := bind_inv h
  obtain ⟨q, hq, h⟩ := bind_inv h
  obtain ⟨g, hg, h⟩ := bind_inv h
  obtain ⟨x, hx, h⟩ := bind_inv h
  obtain ⟨y, hy, h⟩ := bind_inv h
  exact Option.some.inj h ▸ (one_inv ht).trans (by rw [asHand_inv hq, asName_inv hg, one_inv hx, asRet_inv hy])
theorem listArg_inv {ρ : Loc} {e : Expr} {a : Str × Pos × Expr × Pos} (h : listArg ρ e = some a) : e = .Call (.Name a.1 a.2.1) [a.2.2.1] [] a.2.2.2 ∧ (a.1 == ("list" : Str) && isGlob ρ a.1 && notStar a.2.2.1) = true := by
  obtain ⟨c, hc, h⟩ := bind_inv h
  obtain ⟨x, hx, h⟩ := bind_inv h
  have z := only_inv h
  cases z.2
  exact ⟨(asCallN_inv hc).trans (by rw [one_inv hx]), z.1⟩
theorem asCut_inv {e : Expr} {a : Expr × Expr × Pos} (h : asCut e = some a) : e = .Slice (some a.1) (some a.2.1) none a.2.2 := by
  exact bind_go h fun s hc h => bind_go h fun x hx h => bind_go h fun y hy h => by
    rw [asSlice_inv hc, hx, hy]
    generalize s.2.2.1 = o at h
    cases o with
    | none => cases h; rfl
    | some _ => cases h

section
variable {prog : Program} {w : World} {A : Around} {H0 : Heap} {mg mb : Str → Option Value} {Cl : Addr}
variable {C : CallP} {env : Env} {pa : Option Addr} {B : Heap} {P : Addr → Prop} {s₀ : Shared} {oa : Str → Addr} {ρ : Loc} {p : Option Int} {s : Shared} {E : Value → Shared → Prop} {n : Nat} {Q : Flow → Shared → Prop}

theorem name_ok {x : Str} {xp pos : Pos} {e : Expr} (G : Glo H0 mg mb) (hh : A.handled = none) (hU : A.units + 100 < cLine) (ev : ∀ n, EvF prog w A H0 (XPc Cl) C env pa n) (S : SS H0 A env pa B P s₀ noX oa ρ p s)
    (h : XPost H0 A (XPc Cl) env pa B P s₀ Q E (nameX (evP n C false ρ) ρ p e x xp)) : wpAny (model prog w) A (exec (.Assign [.Name x xp] e pos) env) Q E s := by
  unfold nameX at h
  cases hc : asComp e with
  | some c => rw [hc] at h; exact asComp_inv hc ▸ st_comp G hh hU ev S h
  | none =>
    rw [hc] at h
    dsimp only at h
    cases hl : listArg ρ e with
    | some a => rw [hl] at h; have z := listArg_inv hl; exact z.1 ▸ st_list G hh (ev n) S z.2 h
    | none => rw [hl] at h; exact st_assign (ev n) hc S h

theorem tup_ok {ts : List Expr} {k : Nat} {tp pos : Pos} {e : Expr} (hh : A.handled = none) (ev : ∀ n, EvF prog w A H0 (XPc Cl) C env pa n) (S : SS H0 A env pa B P s₀ noX oa ρ p s)
    (h : XPost H0 A (XPc Cl) env pa B P s₀ Q E (assignX (evP n C false ρ) ρ p e (.Tuple ts k tp))) : wpAny (model prog w) A (exec (.Assign [.Tuple ts k tp] e pos) env) Q E s := by
  unfold assignX at h
  dsimp only at h
  cases hc : asTup e with
  | some c => rw [hc] at h; exact asTup_inv hc ▸ st_swap hh ev S h
  | none => rw [hc] at h; exact st_tuple hh (ev n) hc S h

theorem sub_ok {v i : Expr} {sp pos : Pos} {e : Expr} (ev : ∀ n, EvF prog w A H0 (XPc Cl) C env pa n) (S : SS H0 A env pa B P s₀ noX oa ρ p s)
    (h : XPost H0 A (XPc Cl) env pa B P s₀ Q E (assignX (evP n C false ρ) ρ p e (.Subscript v i sp))) : wpAny (model prog w) A (exec (.Assign [.Subscript v i sp] e pos) env) Q E s := by
  unfold assignX at h
  obtain ⟨x, hx, h1⟩ := onSome_x h
  rw [asName_inv hx]
  cases hz : zeroE i with
  | true => rw [hz] at h1; exact (zeroE_inv hz).elim fun k z => z.elim fun q z => z ▸ st_pen (ev n) S h1
  | false =>
    rw [hz] at h1
    obtain ⟨c, hc, h2⟩ := onSome_x h1
    obtain ⟨l, hl, h3⟩ := onSome_x h2
    obtain ⟨a, ha, h4⟩ := onSome_x h3
    rw [asCut_inv hc, asLst_inv hl, one_inv ha]
    exact st_slice (ev n) S h4

theorem assign_ok {t e : Expr} {pos : Pos} (G : Glo H0 mg mb) (hh : A.handled = none) (hU : A.units + 100 < cLine) (ev : ∀ n, EvF prog w A H0 (XPc Cl) C env pa n) (S : SS H0 A env pa B P s₀ noX oa ρ p s)
    (h : XPost H0 A (XPc Cl) env pa B P s₀ Q E (assignX (evP n C false ρ) ρ p e t)) : wpAny (model prog w) A (exec (.Assign [t] e pos) env) Q E s := by
  cases t with
  | Name x xp => exact name_ok G hh hU ev S h
  | Tuple ts k tp => exact tup_ok hh ev S h
  | Subscript v i sp => exact sub_ok ev S h
  | _ => exact h.elim

theorem raise_ok {exc : Expr} {pos : Pos} (G : Glo H0 mg mb) (RW : RzW H0 mg mb Cl) (hh : A.handled = none) (hU : A.units + 200 < cLine) (hroom : A.depth + 4 < recursionLimit) (ev : EvF prog w A H0 (XPc Cl) C env pa n) (S : SS H0 A env pa B P s₀ noX oa ρ p s)
    (h : XPost H0 A (XPc Cl) env pa B P s₀ Q E (raiseX (evP n C false ρ) ρ p exc)) : wpAny (model prog w) A (exec (.Raise (some exc) none pos) env) Q E s := by
  obtain ⟨c, hc, h⟩ := onSome_x h
  rw [asCallN_inv hc]
  cases ho : one c.2.2.1 with
  | some a => rw [ho] at h; exact one_inv ho ▸ st_raise1 G RW hh hU hroom ev S h
  | none =>
    rw [ho] at h
    obtain ⟨ab, h2, h⟩ := onSome_x h
    exact two_inv h2 ▸ st_raise2 G RW.e hh (Nat.lt_of_succ_lt hroom) ev S h

theorem try_ok {body : List Stmt} {hs : List ExceptHandler} {pos : Pos} {outer : List Env} {L : Addr} (G : Glo H0 mg mb) (R : RzT H0 mg mb Cl) (hfr : A.frames = some (env :: outer)) (hf : env.frame = some L) (ev : EvF prog w A H0 (XPc Cl) C env pa n) (S : SS H0 A env pa B P s₀ noX oa ρ p s)
    (h : XPost H0 A (XPc Cl) env pa B P s₀ Q E (onSome (asTry body hs) fun t => tryX (evP n C false ρ) ρ p t.1 t.2)) : wpAny (model prog w) A (exec (.Try body hs [] [] pos) env) Q E s := by
  refine Classical.byContradiction fun hno => ?_
  obtain ⟨t, ht, h⟩ := onSome_x h
  obtain ⟨b, hb, ht⟩ := bind_inv ht
  obtain ⟨r, hr, ht⟩ := bind_inv ht
  obtain ⟨x, hx, ht⟩ := bind_inv ht
  obtain ⟨q, hq, ht⟩ := bind_inv ht
  cases ht
  have h1 := when_x h
  have z := TryS.inv h1.1
  obtain ⟨e1, e2⟩ := TryS.mk.inj z.1
  have e3 := e2.2.2
  apply hno
  rw [one_inv hb, asRet_inv hr, asExc_inv hx, asFour_inv hq, e1, e3.1, e3.2.1, e3.2.2.1, e3.2.2.2.1, e3.2.2.2.2.1, e3.2.2.2.2.2]
  exact st_try_at G R hfr hf ev S z.2.1 z.2.2.1 z.2.2.2 h1.2

theorem ex_all {outer : List Env} {L : Addr} (G : Glo H0 mg mb) (RT : RzT H0 mg mb Cl) (RW : RzW H0 mg mb Cl) (hh : A.handled = none) (hU : A.units + 200 < cLine) (hroom : A.depth + 4 < recursionLimit)
    (hfr : A.frames = some (env :: outer)) (hf : env.frame = some L) (hC : CallOK prog w A H0 mg (XPc Cl) C (RN H0 pa) pa) (n : Nat) : ∀ st, SX prog w A H0 (XPc Cl) env pa st fun ρ p => exP C n ρ p st := by
  have hU1 : A.units + 100 < cLine := by lia
  have evF : ∀ n, EvF prog w A H0 (XPc Cl) C env pa n := fun n _ _ _ _ S => (se_all G hh hU1 n hC (isR_RN H0 pa) S).1
  have evT : ∀ n, EvT prog w A H0 (XPc Cl) C env pa n := fun n _ _ _ _ S => (se_all G hh hU1 n hC (isR_RN H0 pa) S).2
  induction n with
  | zero => exact fun st B P s₀ oa ρ p s Q E S h => False.elim h
  | succ n ih =>
    intro st B P s₀ oa ρ p s Q E S h
    have ihs : ∀ l, SXs prog w A H0 (XPc Cl) env pa l (exsP (exP C n) l) := fun l => exs_sound ih l
    cases st with
    | Expr v q => exact (onSome_x h).elim fun a z => asApp_inv z.1 ▸ st_append (evF n) S z.2
    | Assign ts e q => exact (onSome_x h).elim fun a z => one_inv z.1 ▸ assign_ok G hh hU1 evF S z.2
    | AugAssign t op e q => exact (onSome_x h).elim fun a z => asName_inv z.1 ▸ st_aug (evF n) S z.2
    | If t a b q => exact st_if (evT n) ih S h
    | While t b els q =>
      cases els with
      | nil => exact st_while (evT n) (ihs _) S h
      | cons _ _ => exact False.elim h
    | For tg iter b els q =>
      cases els with
      | nil => exact st_for G hh (evF n) (ihs _) S h
      | cons _ _ => exact False.elim h
    | Return v q =>
      cases v with
      | none => exact st_return0 S h
      | some e => exact st_return (evF n) S h
    | Raise exc c q =>
      cases c with
      | none => exact (onSome_x h).elim fun a z => z.1 ▸ raise_ok G RW hh hU hroom (evF n) S z.2
      | some _ => exact False.elim h
    | Try body hs els fin q =>
      cases els with
      | nil =>
        cases fin with
        | nil => exact try_ok G RT hfr hf (evF n) S h
        | cons _ _ => exact False.elim h
      | cons _ _ => exact False.elim h
    | _ => exact False.elim h
end
end Mine

set_option linter.all false
namespace Mine
open PySem PySem.W PyProof.Rows

/-- what the heap after the loading says of the text's defs -/
noncomputable def DefsAt (H0 : Heap) (mg : Str → Option Value) (D : Str → Option DefRec) : Prop :=
  ∀ f d, D f = some d → ∃ a o fd, FnAt H0 mg f a o fd d.body d.params.args.length (d.params.args.map (·.arg)) ∧ fd.scope = d.scope ∧ enterOk d.scope (d.params.args.map (·.arg)) = true

section
variable {prog : Program} {w : World} {H0 : Heap} {mg mb : Str → Option Value} {Cl : Addr}

theorem call_done {XP : Heap → Heap → Value → Exc → Prop} {pa : Option Addr} {Q : Value → Shared → Prop} {E : Value → Shared → Prop} {s s' : Shared} {fl : Fl} {f : Flow} {p : Option Int} (h : GPost H0 XP (RN H0 pa) pa (Rd (pens pa)) Q E s (backR fl p)) (r : RN H0 pa s s') (q : PenAt H0 pa p s'.heap) (hf : FlOK pa s'.heap fl f) :
    Q (match (generalizing := false) f with | .ret v => v | _ => .none) s' := by
  cases fl with
  | next =>
    cases f with
    | next => exact h .none s' r q .none
    | _ => exact False.elim hf
  | ret d =>
    cases f with
    | ret v => exact h v s' r q hf
    | _ => exact False.elim hf
  | brk => exact h.elim
  | cont => exact h.elim

theorem SS.backRN {A : Around} {env : Env} {pa : Option Addr} {s s' : Shared} {X : Addr → Prop} {oa : Str → Addr} {ρ : Loc} {p : Option Int} (S : SS H0 A env pa s.heap (pens pa) s X oa ρ p s') : RN H0 pa s s' := by
  obtain ⟨h, tk, e⟩ := S.shape
  exact ⟨h, tk, e, by have := S.keep; rw [e] at this; exact this, fun _ => by have := S.stays; rw [e] at this; exact this⟩

/-- what the frame's own names let change is none of the caller's -/
theorem SS.outer {A : Around} {env : Env} {pa : Option Addr} {s s₁ : Shared} {h : Heap} {oa : Str → Addr} {ρ : Loc} {p : Option Int} (S : SS H0 A env pa s.heap (pens pa) s noX oa ρ p s₁) (k : KeepS (loopP env oa pa ρ) s₁.heap h) : KeepS (pens pa) s.heap h :=
  S.keep.trans k fun b hb l => hb.elim (fun e => S.lp.elim (fun q => e ▸ q) fun n => absurd (e ▸ l) n) fun hb => hb.elim (fun hb => (S.penP b hb).elim id fun n => absurd l n) fun hb => hb.elim fun x z => z.elim fun xs z => (S.own x xs z.1).1.1.elim (fun q => z.2 ▸ q) fun n => absurd (z.2 ▸ l) n

theorem call_out {A : Around} {env : Env} {outer : List Env} {L : Addr} {pa : Option Addr} {oa : Str → Addr} {ρ : Loc} {p : Option Int} {s s₁ : Shared} {r : Res (Fl × Loc)} {Q : Value → Shared → Prop} {E : Value → Shared → Prop} (hfr : A.frames = some (env :: outer)) (hf : env.frame = some L) (S : SS H0 A env pa s.heap (pens pa) s noX oa ρ p s₁) (st : H0.StaysIn s.heap) (hp : ∀ b, pens pa b → Live s.heap b)
    (h : GPost H0 (XPc Cl) (RN H0 pa) pa (Rd (pens pa)) Q E s (r.bind fun r p => backR r.1 p)) :
    XPost H0 A (XPc Cl) env pa s₁.heap (loopP env oa pa ρ) s₁ (fun f s' => Q (match f with | .ret v => v | _ => .none) s') (fun e s' => wpAny (model prog w) A (leaving env e) (fun _ s'' => E e s'') (fun e' s'' => E e' s'') s') r := by
  cases r with
  | stuck => exact h.elim
  | ok r p' => exact fun fl s' oa' S' hf => have S2 := S.unbase S'; call_done h S2.backRN S2.pen hf
  | err x p' =>
    intro e s' hb hsh hk st' q l xp
    have lsb : ∀ b, Live s.heap b → Live hb b := fun b lb => l b (S.keep.live lb)
    have hl0 : ∀ b, Live H0 b → Live hb b := fun b z => lsb b (z.elim fun o ho => ⟨o, st b o ho⟩)
    refine Classical.byContradiction fun hno => ?_
    obtain ⟨hh', tk', rfl⟩ := hsh
    refine hno (leave_X hfr ((S.ff _ hfr).keep hk) hf st' hl0 xp.2 xp.1 fun h₂ X₂ c₂ st₂ => ?_)
    have k := c₂.keepS (S.outer hk) lsb
    refine Classical.byContradiction fun hno => ?_
    obtain ⟨hs₁, ts₁, es₁⟩ := S.shape
    exact hno (h e _ hb ⟨h₂, tk', by rw [es₁], k, fun _ => st₂⟩ (q.chg c₂ fun b hp' => lsb b (hp b hp')) lsb ⟨X₂, c₂.live xp.2⟩)

theorem call_all {D : Str → Option DefRec} (G : Glo H0 mg mb) (RT : RzT H0 mg mb Cl) (RW : RzW H0 mg mb Cl) (hD : DefsAt H0 mg D) (k : Nat) : ∀ (A : Around), A.handled = none → A.units + 3 * k + 200 < cLine → A.depth + k + 5 < recursionLimit → A.frames.isSome = true →
    GoodC prog w A H0 mg (XPc Cl) (callP D k) := by
  induction k with
  | zero => exact fun A _ _ _ _ f lvs p hne => absurd rfl hne
  | succ k ih =>
    intro A hh hU hroom hfr f lvs p hne
    cases hDf : D f with
    | none => unfold callP at hne; rw [hDf] at hne; exact absurd rfl hne
    | some d =>
      clear hne
      obtain ⟨a, o, fd, Fn, hsc, hE⟩ := hD f d hDf
      refine ⟨a, o, fd, Fn.name, Fn.at_, Fn.data, fun pa vs s Q E st ff hp ha h => ?_⟩
      unfold callP at h
      rw [hDf] at h
      have h0 := when_ok h
      have hlen := of_decide_eq_true h0.1
      have h1 := h0.2
      clear h h0
      rw [← hsc] at h1 hE
      obtain ⟨outer, hout⟩ := Option.isSome_iff_exists.mp hfr
      refine wpAny_call (call_fn (fd := fd) (by lia) (st _ _ Fn.at_) Fn.data (G.lim.keeps st) (Fn.code.keeps st) Fn.body_ (Fn.bind_ s vs st (by rw [ha.length, hlen])) Fn.clo (fun z hz => ?_) (fun s₁ Xc => ?_) Fn.co Fn.gen Fn.kind)
      · have e5 := Bool.and_eq_true_iff.mp hE
        exact (Bool.or_eq_true _ _ ▸ List.all_eq_true.mp (Bool.and_eq_true_iff.mp e5.1).2 _ (zip_keys (List.mem_map.mpr ⟨z, hz, rfl⟩))).imp eq_of_beq fun q => ⟨eq_of_beq q, cell_there e5.2 (eq_of_beq q)⟩
      · have S₁ := enter_SS (A := A) (lvs := lvs) Fn.gl Fn.bl Fn.kind hE st ff hp ha Xc
        have hfr' : (A.deeper (callEnvC fd s.heap.objs.size a)).frames = some (callEnvC fd s.heap.objs.size a :: outer) := by
          show A.frames.map _ = _
          rw [hout]; rfl
        exact exs_sound (ex_all (A := A.deeper (callEnvC fd s.heap.objs.size a)) (L := s.heap.objs.size) G RT RW hh (by show A.units + 3 + 200 < cLine; lia) (by show A.depth + 1 + 4 < recursionLimit; lia) hfr' rfl
          (.inr ⟨rfl, ih (A.deeper (callEnvC fd s.heap.objs.size a)) hh (by show A.units + 3 + 3 * k + 200 < cLine; lia) (by show A.depth + 1 + k + 5 < recursionLimit; lia) (by rw [hfr']; rfl)⟩) nestFuel) d.body S₁.rebase (call_out hfr' rfl S₁ st hp.live h1)
end
end Mine

set_option linter.all false
namespace Mine
open PySem PySem.W PyProof.Rows

/-! the reading's steps, as equations -/

theorem bd {α β : Type} {x : Res α} {f : α → Option Int → Res β} {a : α} {p : Option Int} {R : Res β} (h : x = .ok a p) (k : f a p = R) : x.bind f = R := by rw [h]; exact k
theorem bdE {α β : Type} {x : Res α} {f : α → Option Int → Res β} {X : Exc} {p : Option Int} (h : x = .err X p) : x.bind f = .err X p := by rw [h]; rfl
theorem oo {α : Type} {o : Option α} {a : α} {p : Option Int} (h : o = some a) : Res.ofOpt p o = .ok a p := by rw [h]; rfl
theorem ob {α β : Type} {o : Option α} {a : α} {p : Option Int} {f : α → Option Int → Res β} {R : Res β} (h : o = some a) (k : f a p = R) : (Res.ofOpt p o).bind f = R := by rw [h]; exact k
theorem wh {α : Type} {c : Bool} {r R : Res α} (h : c = true) (k : r = R) : Res.when c r = R := by rw [h]; exact k
theorem os {α β : Type} {o : Option α} {a : α} {f : α → Res β} {R : Res β} (h : o = some a) (k : f a = R) : onSome o f = R := by rw [h]; exact k
theorem cl {α : Type} {x : Res α} {a : α} {p : Option Int} (h : x = .ok a p) : x.calm = .ok a p := by rw [h]; rfl
theorem onT {α : Type} {t f : Option Int → Res α} {c : Bool} {p : Option Int} {R : Res α} (hc : c = true) (k : t p = R) : onBool t f (.bool c) p = R := by rw [hc]; exact k
theorem onF {α : Type} {t f : Option Int → Res α} {c : Bool} {p : Option Int} {R : Res α} (hc : c = false) (k : f p = R) : onBool t f (.bool c) p = R := by rw [hc]; exact k

section
variable {C : CallP} {n : Nat} {ρ ρ1 : Loc} {p p1 p2 p3 p4 : Option Int} {x y f : Str} {l : LV} {L : Option LV} {d a b c : PyData} {q q1 q2 q3 : Pos} {e e1 e2 e3 : Expr}

theorem look_hit : look ((x, l) :: ρ) x = some l := by unfold look; rw [List.lookup_cons, beq_self_eq_true]
theorem look_miss (h : (y == x) = false) (k : look ρ y = L) : look ((x, l) :: ρ) y = L := by unfold look at k ⊢; rw [List.lookup_cons, h]; exact k
theorem put_hit {v : LV} : put ((x, l) :: ρ) x v = (x, v) :: ρ := by unfold put; rw [beq_self_eq_true]
theorem put_miss {v : LV} (h : (x == y) = false) (k : put ρ x v = ρ1) : put ((y, l) :: ρ) x v = (y, l) :: ρ1 := by unfold put; rw [h, k]

theorem v_none {k : Nat} : evP (n + 1) C false ρ p (.Constant .none k q) = .ok .none p := rfl
theorem v_bool {k : Nat} {b : Bool} : evP (n + 1) C false ρ p (.Constant (.bool b) k q) = .ok (.bool b) p := rfl
theorem v_int {k : Nat} {i : Int} : evP (n + 1) C false ρ p (.Constant (.int i) k q) = .ok (.int i) p := rfl
theorem v_str {k : Nat} : evP (n + 1) C false ρ p (.Constant (.str x) k q) = .ok (.str x) p := rfl
theorem v_name (h : look ρ x = some (.val d)) : evP (n + 1) C false ρ p (.Name x q) = .ok d p := oo (h ▸ rfl)
theorem v_own {xs : List PyData} (h : look ρ x = some (.own xs)) : evP (n + 1) C false ρ p (.Name x q) = .ok (.list xs) p := oo (h ▸ rfl)
theorem v_cell (h : look ρ x = some (.cell d)) : evP (n + 1) C false ρ p (.Name x q) = .ok d p := oo (h ▸ rfl)
theorem v_bin {op : Operator} (h1 : evP n C false ρ p e1 = .ok a p1) (h2 : evP n C false ρ p1 e2 = .ok b p2) (h3 : binP op a b = some d) : evP (n + 1) C false ρ p (.BinOp e1 op e2 q) = .ok d p2 := bd h1 (bd h2 (oo h3))
theorem v_neg {i : Int} (h1 : evP n C false ρ p e1 = .ok (.int i) p1) : evP (n + 1) C false ρ p (.UnaryOp .USub e1 q) = .ok (.int (-i)) p1 := bd h1 rfl
theorem v_ift {r : Res PyData} {c : Bool} (h1 : evP n C true ρ p e1 = .ok (.bool c) p1) (hc : c = true) (h2 : evP n C false ρ p1 e2 = r) : evP (n + 1) C false ρ p (.IfExp e1 e2 e3 q) = r := bd h1 (onT hc h2)
theorem v_iff {r : Res PyData} {c : Bool} (h1 : evP n C true ρ p e1 = .ok (.bool c) p1) (hc : c = false) (h2 : evP n C false ρ p1 e3 = r) : evP (n + 1) C false ρ p (.IfExp e1 e2 e3 q) = r := bd h1 (onF hc h2)
theorem v_cmp {op : CmpOp} {c : Bool} (hs : notSet e2 = true) (h1 : evP n C false ρ p e1 = .ok a p1) (h2 : evP n C false ρ p1 e2 = .ok b p2) (h3 : cmpP op a b = some c) : evP (n + 1) C false ρ p (.Compare e1 [op] [e2] q) = .ok (.bool c) p2 := wh hs (bd h1 (bd h2 (ob h3 rfl)))
theorem v_and_t {c : Bool} {r : Res PyData} (h1 : evP n C false ρ p e1 = .ok (.bool c) p1) (hc : c = true) (h2 : evP n C false ρ p1 e2 = r) : evP (n + 1) C false ρ p (.BoolOp .And [e1, e2] q) = r := bd h1 (onT hc h2)
theorem v_tuple {es : List Expr} {ds : List PyData} {k : Nat} (h : evalsP (evP n C false ρ) es p = .ok ds p1) (hl : ds.length ≤ sizeLine) : evP (n + 1) C false ρ p (.Tuple es k q) = .ok (.tuple ds) p1 := bd h (wh (decide_eq_true hl) rfl)
theorem v_list {es : List Expr} {ds : List PyData} (h : evalsP (evP n C false ρ) es p = .ok ds p1) (hl : ds.length ≤ sizeLine) : evP (n + 1) C false ρ p (.List es q) = .ok (.list ds) p1 := bd h (wh (decide_eq_true hl) rfl)
theorem es_nil {ev : Option Int → Expr → Res PyData} : evalsP ev [] p = .ok [] p := rfl
theorem es_cons {ev : Option Int → Expr → Res PyData} {r : List Expr} {ds : List PyData} (hs : notStar e = true) (h1 : ev p e = .ok d p1) (h2 : evalsP ev r p1 = .ok ds p2) : evalsP ev (e :: r) p = .ok (d :: ds) p2 := wh hs (bd h1 (bd h2 rfl))

noncomputable def penCall (args : List Expr) : Bool := (penArgs args).isSome
theorem no_pen {args : List Expr} (hp : penCall args = false) : penArgs args = none := Option.isSome_eq_false_iff.mp hp |> Option.isNone_iff_eq_none.mp
theorem glob_ok (h : look ρ f = some .glob) : isGlobL (look ρ f) = true := by rw [h]; rfl
theorem nameE_eq {ev : Option Int → Expr → Res PyData} {args : List Expr} (hp : penCall args = false) (hf : look ρ f = some .glob) {R : Res PyData} (h : (match isBlt f with
      | true => (evalsP ev args p).calm.bind fun ds p => Res.ofOpt p (builtinP f ds)
      | false => (argsP ev ρ args p).calm.bind fun lvs p => C f lvs p) = R) : nameE ev C ρ p args f = R := wh (glob_ok hf) (by rw [no_pen hp]; exact h)
theorem v_builtin {args : List Expr} {ds : List PyData} (hp : penCall args = false) (hf : look ρ f = some .glob) (hb : isBlt f = true) (ha : evalsP (evP n C false ρ) args p = .ok ds p1) (ho : builtinP f ds = some d) : evP (n + 1) C false ρ p (.Call (.Name f q1) args [] q) = .ok d p1 :=
  nameE_eq hp hf (by rw [hb]; exact bd (cl ha) (oo ho))
theorem v_call {args : List Expr} {lvs : List LV} {r : Res PyData} (hp : penCall args = false) (hf : look ρ f = some .glob) (hb : isBlt f = false) (ha : argsP (evP n C false ρ) ρ args p = .ok lvs p1) (hc : C f lvs p1 = r) : evP (n + 1) C false ρ p (.Call (.Name f q1) args [] q) = r :=
  nameE_eq hp hf (by rw [hb]; exact bd (cl ha) hc)
theorem as_nil {ev : Option Int → Expr → Res PyData} : argsP ev ρ [] p = .ok [] p := rfl
theorem as_pen {ev : Option Int → Expr → Res PyData} {r : List Expr} {ls : List LV} (hl : look ρ x = some .pen) (h2 : argsP ev ρ r p = .ok ls p2) : argsP ev ρ (.Name x q :: r) p = .ok (.pen :: ls) p2 := by
  have : penNm ρ (.Name x q) = true := by show isPenL (look ρ x) = true; rw [hl]; rfl
  unfold argsP; rw [this]; exact bd h2 rfl
noncomputable def isPen (l : LV) : Bool := isPenL (some l)
theorem pn_name (h : look ρ x = some l) (hl : isPen l = false) : penNm ρ (.Name x q) = false := by show isPenL (look ρ x) = false; rw [h]; exact hl
theorem as_cons {ev : Option Int → Expr → Res PyData} {r : List Expr} {ls : List LV} (hs : notStar e = true) (hn : penNm ρ e = false) (h1 : ev p e = .ok d p1) (h2 : argsP ev ρ r p1 = .ok ls p2) : argsP ev ρ (e :: r) p = .ok (.val d :: ls) p2 := by
  unfold argsP; rw [hs, hn]; exact bd h1 (bd h2 rfl)

theorem v_meth0 {m : Str} (hw : (q1.endLine == q.line && noSuper e) = true) (h1 : evP n C false ρ p e = .ok a p1) (h2 : methodP a m [] = some d) : evP (n + 1) C false ρ p (.Call (.Attribute e m q1) [] [] q) = .ok d p1 := wh hw (bd h1 (oo h2))
theorem v_meth1 {m : Str} (hw : (q1.endLine == q.line && noSuper e && notStar e1) = true) (h1 : evP n C false ρ p e = .ok a p1) (h2 : evP n C false ρ p1 e1 = .ok b p2) (h3 : methodP a m [b] = some d) : evP (n + 1) C false ρ p (.Call (.Attribute e m q1) [e1] [] q) = .ok d p2 := wh hw (bd h1 (bd (cl h2) (oo h3)))

theorem pt_none {ev : Option Int → Expr → Res PyData} : partP ev none p = .ok none p := rfl
theorem pt_some {ev : Option Int → Expr → Res PyData} {i : Int} (h : ev p e = .ok (.int i) p1) : partP ev (some e) p = .ok (some i) p1 := bd h rfl
theorem v_slice {lo hi st : Option Expr} {i j k : Option Int} (h1 : evP n C false ρ p e = .ok a p1) (h2 : partP (evP n C false ρ) lo p1 = .ok i p2) (h3 : partP (evP n C false ρ) hi p2 = .ok j p3) (h4 : partP (evP n C false ρ) st p3 = .ok k p4)
    (h5 : sliceP a i j k = some d) : evP (n + 1) C false ρ p (.Subscript e (.Slice lo hi st q1) q) = .ok d p4 := bd h1 (bd h2 (bd h3 (bd h4 (oo h5))))
theorem subE_at {ev ev' : Option Int → Expr → Res PyData} {R : Res PyData} (hs : asSlice e1 = none) (hd : asDict e = none) (hn : penNm ρ e = false) (h : ((ev p e).bind fun d p => (ev p e1).bind fun k p => Res.ofOpt p (subP d k)) = R) : subE ev ev' ρ p e e1 = R := by
  unfold subE; rw [hs, hd, hn]; exact h
theorem v_pen {i : Int} {k : Nat} (hl : look ρ x = some .pen) : evP (n + 1) C false ρ (some i) (.Subscript (.Name x q1) (.Constant (.int 0) k q2) q) = .ok (.int i) (some i) := by
  have : penNm ρ (.Name x q1) = true := by show isPenL (look ρ x) = true; rw [hl]; rfl
  show (match penNm ρ (.Name x q1) with | true => _ | false => _) = _
  rw [this]; rfl
noncomputable def plainSub (e i : Expr) : Bool := (asSlice i).isNone && (asDict e).isNone
theorem v_sub (hp : plainSub e e1 = true) (hn : penNm ρ e = false) (h1 : evP n C false ρ p e = .ok a p1) (h2 : evP n C false ρ p1 e1 = .ok b p2) (h3 : subP a b = some d) : evP (n + 1) C false ρ p (.Subscript e e1 q) = .ok d p2 :=
  have z := Bool.and_eq_true_iff.mp hp
  subE_at (Option.isNone_iff_eq_none.mp z.1) (Option.isNone_iff_eq_none.mp z.2) hn (bd h1 (bd h2 (oo h3)))

/-! tests -/
theorem t_not {c : Bool} (h : evP n C true ρ p e = .ok (.bool c) p1) : evP (n + 1) C true ρ p (.UnaryOp .Not e q) = .ok (.bool (!c)) p1 := bd h rfl
theorem t_bool {op : BoolOp} {es : List Expr} {r : Res PyData} (h : boolP (evP n C true ρ) op es p = r) : evP (n + 1) C true ρ p (.BoolOp op es q) = r := h
theorem b_and_t {ev : Option Int → Expr → Res PyData} {es : List Expr} {c : Bool} {r : Res PyData} (h : ev p e = .ok (.bool c) p1) (hc : c = true) (k : boolP ev .And es p1 = r) : boolP ev .And (e :: es) p = r := bd h (onT hc k)
theorem b_and_f {ev : Option Int → Expr → Res PyData} {es : List Expr} {c : Bool} (h : ev p e = .ok (.bool c) p1) (hc : c = false) : boolP ev .And (e :: es) p = .ok (.bool false) p1 := bd h (onF hc rfl)
theorem b_or_f {ev : Option Int → Expr → Res PyData} {es : List Expr} {c : Bool} {r : Res PyData} (h : ev p e = .ok (.bool c) p1) (hc : c = false) (k : boolP ev .Or es p1 = r) : boolP ev .Or (e :: es) p = r := bd h (onF hc k)
theorem b_or_t {ev : Option Int → Expr → Res PyData} {es : List Expr} {c : Bool} (h : ev p e = .ok (.bool c) p1) (hc : c = true) : boolP ev .Or (e :: es) p = .ok (.bool true) p1 := bd h (onT hc rfl)
theorem t_cmp {op : CmpOp} {c : Bool} (hs : notSet e2 = true) (h1 : evP n C false ρ p e1 = .ok a p1) (h2 : evP n C false ρ p1 e2 = .ok b p2) (h3 : cmpP op a b = some c) : evP (n + 1) C true ρ p (.Compare e1 [op] [e2] q) = .ok (.bool c) p2 := wh hs (bd h1 (bd h2 (ob h3 rfl)))
theorem t_cmp2 {o1 o2 : CmpOp} {c c' : Bool} (hs : notSet e3 = true) (h1 : evP n C false ρ p e1 = .ok a p) (h2 : evP n C false ρ p e2 = .ok b p) (h3 : cmpP o1 a b = some c) (h4 : evP n C false ρ p e3 = .ok d p) (h5 : cmpP o2 b d = some c') :
    evP (n + 1) C true ρ p (.Compare e1 [o1, o2] [e2, e3] q) = .ok (.bool (c && c')) p := wh hs (bd h1 (bd h2 (bd (ob h3 rfl) (by
  cases c with
  | false => rfl
  | true => exact bd h4 (ob h5 rfl)))))
theorem t_name {c : Bool} (h : evP n C false ρ p (.Name x q) = .ok (.bool c) p1) : evP (n + 1) C true ρ p (.Name x q) = .ok (.bool c) p1 := bd h rfl
theorem t_call {args : List Expr} {c : Bool} (h : evP n C false ρ p (.Call (.Name x q1) args [] q) = .ok (.bool c) p1) : evP (n + 1) C true ρ p (.Call (.Name x q1) args [] q) = .ok (.bool c) p1 := bd h rfl
theorem t_meth {m : Str} {args : List Expr} {c : Bool} (h : evP n C false ρ p (.Call (.Attribute e m q1) args [] q) = .ok (.bool c) p1) : evP (n + 1) C true ρ p (.Call (.Attribute e m q1) args [] q) = .ok (.bool c) p1 := bd h rfl

/-! names that take values -/
noncomputable def locLV (l : LV) : Bool := isLocalL (some l)
theorem isLocal_hit (h : locLV l = true) : isLocal ((x, l) :: ρ) x = true := by unfold isLocal; rw [look_hit]; exact h
theorem isLocal_miss (hne : (x == y) = false) (h : isLocal ρ x = true) : isLocal ((y, l) :: ρ) x = true := by
  unfold isLocal at h ⊢; rw [look_miss hne rfl]; exact h
theorem setVal_of (hs : storable ρ d = true) (hl : isLocal ρ x = true) (hp : put ρ x (.val d) = ρ1) : setVal ρ x d = some ρ1 := by
  unfold setVal; rw [hs, hl, hp]; rfl
theorem flat_store (hf : flat d = true) : storable ρ d = true := by unfold storable; rw [hf]; rfl
theorem sv_hit (hl : locLV l = true) (hf : flat d = true) : setVal ((x, l) :: ρ) x d = some ((x, .val d) :: ρ) := setVal_of (flat_store hf) (isLocal_hit hl) put_hit
theorem sv_miss (hne : (x == y) = false) (hf : flat d = true) (h : setVal ρ x d = some ρ1) : setVal ((y, l) :: ρ) x d = some ((y, l) :: ρ1) := by
  unfold setVal at h
  rw [flat_store hf] at h
  cases hl : isLocal ρ x with
  | false => rw [hl] at h; cases h
  | true => rw [hl] at h; cases h; exact setVal_of (flat_store hf) (isLocal_miss hne hl) (put_miss hne rfl)
theorem sv_list (hn : noOwn ρ = true) (hl : isLocal ρ x = true) (hp : put ρ x (.val d) = ρ1) : setVal ρ x d = some ρ1 := setVal_of (by unfold storable; rw [hn, Bool.or_true]) hl hp
theorem svs_nil : setVals ρ [] [] = some ρ := rfl
theorem svs_cons {r : List Expr} {ds : List PyData} {R : Option Loc} (h1 : setVal ρ x d = some ρ1) (h2 : setVals ρ1 r ds = R) : setVals ρ (.Name x q :: r) (d :: ds) = R := by
  show (setVal ρ x d).bind _ = _
  rw [h1]; exact h2
theorem pa_nil : putAll ρ [] [] = some ρ := rfl
theorem pa_cons {r : List Expr} {ls : List LV} {R : Option Loc} (hl : isLocal ρ x = true) (h1 : put ρ x l = ρ1) (h2 : putAll ρ1 r ls = R) : putAll ρ (.Name x q :: r) (l :: ls) = R := by
  show only (isLocal ρ x) (putAll (put ρ x l) r ls) = _
  rw [hl, h1]; exact h2
end
end Mine

set_option linter.all false
namespace Mine
open PySem PySem.W PyProof.Rows

section
variable {C : CallP} {n : Nat} {ρ ρ1 : Loc} {p p1 p2 p3 p4 : Option Int} {x y f : Str} {l : LV} {L : Option LV} {d a b c : PyData} {q q1 q2 q3 : Pos} {e e1 e2 e3 : Expr} {X : Exc} {r : Res (Fl × Loc)}

noncomputable def plainA (e : Expr) : Bool := (asComp e).isNone && !((asCallN e).any fun c => c.1 == ("list" : Str))
theorem x_assign' (hp : plainA e = true) {R : Res (Fl × Loc)} (h : (evP n C false ρ p e).bind (setR ρ x) = R) : exP C (n + 1) ρ p (.Assign [.Name x q1] e q) = R := by
  have z := Bool.and_eq_true_iff.mp hp
  have hl : listArg ρ e = none := by
    unfold listArg
    cases hc : asCallN e with
    | none => rfl
    | some c =>
      have z2 := z.2
      rw [hc] at z2
      have z3 : (c.1 == ("list" : Str)) = false := (Bool.not_eq_true' _).mp z2
      show (one c.2.2.1).bind _ = none
      cases one c.2.2.1 with
      | none => rfl
      | some a => show only (c.1 == ("list" : Str) && isGlob ρ c.1 && notStar a) _ = none; rw [z3]; rfl
  show nameX (evP n C false ρ) ρ p e x q1 = R
  unfold nameX
  rw [Option.isNone_iff_eq_none.mp z.1, hl]; exact h
theorem x_assign (hp : plainA e = true) (he : evP n C false ρ p e = .ok d p1) (hs : setVal ρ x d = some ρ1) : exP C (n + 1) ρ p (.Assign [.Name x q1] e q) = .ok (.next, ρ1) p1 := x_assign' hp (bd he (ob hs rfl))
theorem x_assign_err (hp : plainA e = true) (he : evP n C false ρ p e = .err X p1) : exP C (n + 1) ρ p (.Assign [.Name x q1] e q) = .err X p1 := x_assign' hp (bdE he)
theorem x_comp {elt : Expr} {gens : List Comprehension} {scope : Scope} (hc : (q1.line == q2.line && !(scope.names.any fun y => y.1 == x && (y.2 == .local || y.2 == .cell))) = true) (hl : isLocal ρ x = true)
    (he : evP n C false ρ p (.ListComp elt gens scope q2) = .ok d p1) (hs : setVal ρ x d = some ρ1) : exP C (n + 1) ρ p (.Assign [.Name x q1] (.ListComp elt gens scope q2) q) = .ok (.next, ρ1) p1 := wh (Bool.and_eq_true_iff.mpr ⟨hc, hl⟩) (bd he (ob hs rfl))
theorem x_list {xs : List PyData} (hf : (f == ("list" : Str)) = true) (hg : look ρ f = some .glob) (hn : notStar e = true) (he : evP n C false ρ p e = .ok d p1) (hi : itemsOf d = some xs) (hfl : flats xs = true) (hl : isLocal ρ x = true) (hsz : xs.length ≤ sizeLine)
    (hp : put ρ x (.own xs) = ρ1) : exP C (n + 1) ρ p (.Assign [.Name x q1] (.Call (.Name f q2) [e] [] q3) q) = .ok (.next, ρ1) p1 := by
  have ha : listArg ρ (.Call (.Name f q2) [e] [] q3) = some (f, q2, e, q3) := by
    show only (f == ("list" : Str) && isGlob ρ f && notStar e) (some (f, q2, e, q3)) = _
    rw [hf, show isGlob ρ f = true from glob_ok hg, hn]; rfl
  show (match listArg ρ (.Call (.Name f q2) [e] [] q3) with
    | some a => listX (evP n C false ρ) ρ p x a.2.2.1
    | none => _) = _
  rw [ha]
  exact bd he (ob hi (wh (by rw [hfl, hl, decide_eq_true hsz]; rfl) (by rw [hp]; rfl)))
theorem x_swap {ts vs : List Expr} {k k' : Nat} {ls : List LV} (hs : swapOk ts vs = true) (hl : allLocal ρ ts = true) (hp : partsP (evP n C false ρ) vs p = .ok ls p1) (ha : putAll ρ ts.reverse ls.reverse = some ρ1) :
    exP C (n + 1) ρ p (.Assign [.Tuple ts k q1] (.Tuple vs k' q2) q) = .ok (.next, ρ1) p1 := wh (Bool.and_eq_true_iff.mpr ⟨hs, hl⟩) (bd hp (ob ha rfl))
theorem ps_nil {ev : Option Int → Expr → Res PyData} : partsP ev [] p = .ok [] p := rfl
noncomputable def plainPart (e : Expr) : Bool := notStar e && (asLst e).isNone
theorem ps_own {ev : Option Int → Expr → Res PyData} {es r : List Expr} {xs : List PyData} {ls : List LV} (h1 : ev p (.List es q) = .ok (.list xs) p1) (hf : flats xs = true) (h2 : partsP ev r p1 = .ok ls p2) : partsP ev (.List es q :: r) p = .ok (.own xs :: ls) p2 :=
  wh rfl (bd h1 (ob (show only (flats xs) (some (LV.own xs)) = some (.own xs) by rw [hf]; rfl) (bd h2 rfl)))
theorem ps_cons {ev : Option Int → Expr → Res PyData} {r : List Expr} {ls : List LV} (hp : plainPart e = true) (h1 : ev p e = .ok d p1) (hf : flat d = true) (h2 : partsP ev r p1 = .ok ls p2) : partsP ev (e :: r) p = .ok (.val d :: ls) p2 :=
  have z := Bool.and_eq_true_iff.mp hp
  wh z.1 (bd h1 (ob (show partLV (asLst e).isSome d = some (.val d) by rw [Option.isNone_iff_eq_none.mp z.2]; show only (flat d) _ = _; rw [hf]; rfl) (bd h2 rfl)))
noncomputable def notTup (e : Expr) : Bool := (asTup e).isNone
theorem x_tuple {ts : List Expr} {k : Nat} {ds : List PyData} (ht : notTup e = true) (he : evP n C false ρ p e = .ok (.tuple ds) p1) (hs : setVals ρ ts ds = some ρ1) : exP C (n + 1) ρ p (.Assign [.Tuple ts k q1] e q) = .ok (.next, ρ1) p1 := by
  show (match asTup e with | some v => _ | none => tupX (evP n C false ρ) ρ p (.Tuple ts k q1) e) = _
  rw [Option.isNone_iff_eq_none.mp ht]
  exact bd he (ob hs rfl)
theorem x_pen {i j : Int} {k : Nat} (hl : look ρ x = some .pen) (he : evP n C false ρ p e = .ok (.int i) (some j)) : exP C (n + 1) ρ p (.Assign [.Subscript (.Name x q1) (.Constant (.int 0) k q2) q3] e q) = .ok (.next, ρ) (some i) :=
  show penX (evP n C false ρ) ρ p x e = _ from wh (by rw [hl]; rfl) (bd he rfl)
theorem own_ok {xs : List PyData} (hl : look ρ x = some (.own xs)) : ownOf (look ρ x) = some xs := by rw [hl]; rfl
theorem x_slice {xs ys zs : List PyData} {lo hi : Expr} {i j : Int} {q4 : Pos} (hl : look ρ x = some (.own xs)) (he : evP n C false ρ p (.List [e] q2) = .ok (.list ys) p1) (h1 : evP n C false ρ p1 lo = .ok (.int i) p2) (h2 : evP n C false ρ p2 hi = .ok (.int j) p3)
    (hf : flats ys = true) (hz : sliceSet xs ys i j = some zs) (hp : put ρ x (.own zs) = ρ1) : exP C (n + 1) ρ p (.Assign [.Subscript (.Name x q1) (.Slice (some lo) (some hi) none q3) q4] (.List [e] q2) q) = .ok (.next, ρ1) p3 :=
  show sliceX (evP n C false ρ) ρ p x lo hi e q2 = _ from ob (own_ok hl) (bd he (bd h1 (bd h2 (ob (show only (flats ys) (sliceSet xs ys i j) = some zs by rw [hf]; exact hz) (by rw [hp]; rfl)))))
theorem x_append {m : Str} {xs : List PyData} (hm : (m == ("append" : Str) && q2.endLine == q3.line && notStar e) = true) (hl : look ρ x = some (.own xs)) (he : evP n C false ρ p e = .ok d p1) (hf : flat d = true) (hs : xs.length ≤ 1000) (hp : put ρ x (.own (xs ++ [d])) = ρ1) :
    exP C (n + 1) ρ p (.Expr (.Call (.Attribute (.Name x q1) m q2) [e] [] q3) q) = .ok (.next, ρ1) p1 :=
  show appendX (evP n C false ρ) ρ p x m q2 e q3 = _ from wh hm (ob (own_ok hl) (bd he (wh (by rw [hf, decide_eq_true hs]; rfl) (by rw [hp]; rfl))))
theorem x_aug_add {i j : Int} (hl : look ρ x = some (.val (.int i))) (he : evP (n + 1) C false ρ p e = .ok (.int j) p1) (hs : setVal ρ x (.int (i + j)) = some ρ1) : exP C (n + 2) ρ p (.AugAssign (.Name x q1) .Add e q) = .ok (.next, ρ1) p1 :=
  show augX (evP (n + 1) C false ρ) ρ p x q1 .Add e = _ from bd (v_name hl) (bd he (ob rfl (ob hs rfl)))
theorem x_aug_sub {i j : Int} (hl : look ρ x = some (.val (.int i))) (he : evP (n + 1) C false ρ p e = .ok (.int j) p1) (hs : setVal ρ x (.int (i - j)) = some ρ1) : exP C (n + 2) ρ p (.AugAssign (.Name x q1) .Sub e q) = .ok (.next, ρ1) p1 :=
  show augX (evP (n + 1) C false ρ) ρ p x q1 .Sub e = _ from bd (v_name hl) (bd he (ob rfl (ob hs rfl)))
theorem x_if_t {s1 s2 : List Stmt} {c : Bool} (h : evP n C true ρ p e = .ok (.bool c) p1) (hc : c = true) (k : exsP (exP C n) s1 ρ p1 = r) : exP C (n + 1) ρ p (.If e s1 s2 q) = r := bd h (onT hc k)
theorem x_if_f {s1 s2 : List Stmt} {c : Bool} (h : evP n C true ρ p e = .ok (.bool c) p1) (hc : c = false) (k : exsP (exP C n) s2 ρ p1 = r) : exP C (n + 1) ρ p (.If e s1 s2 q) = r := bd h (onF hc k)
theorem x_while {s1 : List Stmt} {z : Fl × Loc} (h : whileP (fun ρ p => evP n C true ρ p e) (fun ρ p => exsP (exP C n) s1 ρ p) whileFuel ρ p = .ok z p1) : exP C (n + 1) ρ p (.While e s1 [] q) = .ok z p1 := cl h
theorem w_f {t : Loc → Option Int → Res PyData} {b : Loc → Option Int → Res (Fl × Loc)} {k : Nat} {c : Bool} (h : t ρ p = .ok (.bool c) p1) (hc : c = false) : whileP t b (k + 1) ρ p = .ok (.next, ρ) p1 := bd h (onF hc rfl)
theorem w_t {t : Loc → Option Int → Res PyData} {b : Loc → Option Int → Res (Fl × Loc)} {k : Nat} {c : Bool} (h : t ρ p = .ok (.bool c) p1) (hc : c = true) (hb : b ρ p1 = .ok (.next, ρ1) p2) (hk : whileP t b k ρ1 p2 = r) : whileP t b (k + 1) ρ p = r := bd h (onT hc (bd hb hk))
theorem w_ret {t : Loc → Option Int → Res PyData} {b : Loc → Option Int → Res (Fl × Loc)} {k : Nat} {c : Bool} (h : t ρ p = .ok (.bool c) p1) (hc : c = true) (hb : b ρ p1 = .ok (.ret d, ρ1) p2) : whileP t b (k + 1) ρ p = .ok (.ret d, ρ1) p2 := bd h (onT hc (bd hb rfl))
theorem x_for {s1 : List Stmt} {tg it : Expr} {items : List PyData} {z : Fl × Loc} (hi : forItems (isTup tg) (evP n C false ρ) ρ p it = .ok items p1) (hf : forP (fun d ρ p => (Res.ofOpt p (bindP tg d ρ)).bind fun ρ p => exsP (exP C n) s1 ρ p) items ρ p1 = .ok z p2) :
    exP C (n + 1) ρ p (.For tg it s1 [] q) = .ok z p2 := bd hi (cl hf)
theorem f_nil {b : PyData → Loc → Option Int → Res (Fl × Loc)} : forP b [] ρ p = .ok (.next, ρ) p := rfl
theorem f_cons {b : PyData → Loc → Option Int → Res (Fl × Loc)} {xs : List PyData} (h : b d ρ p = .ok (.next, ρ1) p1) (k : forP b xs ρ1 p1 = r) : forP b (d :: xs) ρ p = r := bd h k
theorem f_ret {b : PyData → Loc → Option Int → Res (Fl × Loc)} {xs : List PyData} (h : b d ρ p = .ok (.ret a, ρ1) p1) : forP b (d :: xs) ρ p = .ok (.ret a, ρ1) p1 := bd h rfl
/-- one turn of a for -/
theorem turn_name {s1 : List Stmt} {ex : Loc → Option Int → Stmt → Res (Fl × Loc)} (h : setVal ρ x d = some ρ1) (k : exsP ex s1 ρ1 p = r) : ((Res.ofOpt p (bindP (.Name x q) d ρ)).bind fun ρ p => exsP ex s1 ρ p) = r := ob h k
theorem turn_tuple {s1 : List Stmt} {ex : Loc → Option Int → Stmt → Res (Fl × Loc)} {ts : List Expr} {k0 : Nat} {ds : List PyData} (h : setVals ρ ts ds = some ρ1) (k : exsP ex s1 ρ1 p = r) : ((Res.ofOpt p (bindP (.Tuple ts k0 q) (.tuple ds) ρ)).bind fun ρ p => exsP ex s1 ρ p) = r := ob h k
theorem rng_ok {ev : Option Int → Expr → Res PyData} {args : List Expr} {ds items : List PyData} (hl : look ρ f = some .glob) (ha : evalsP ev args p = .ok ds p1) (hr : rangeP ds = some items) : rngR ev ρ p f args = .ok items p1 := wh (glob_ok hl) (bd (cl ha) (oo hr))
theorem fi_range {ev : Option Int → Expr → Res PyData} {args : List Expr} {ds items : List PyData} {tup : Bool} (hf : (f == ("range" : Str)) = true) (hl : look ρ f = some .glob) (ha : evalsP ev args p = .ok ds p1) (hr : rangeP ds = some items) :
    forItems tup ev ρ p (.Call (.Name f q1) args [] q) = .ok items p1 := by
  show (match f == ("range" : Str) with | true => rngR ev ρ p f args | false => _) = _
  rw [hf]; exact rng_ok hl ha hr
theorem fi_enum {ev : Option Int → Expr → Res PyData} {xs : List PyData} (hr : (f == ("range" : Str)) = false) (hf : (f == ("enumerate" : Str)) = true) (hl : look ρ f = some .glob) (ha : ev p e = .ok (.list xs) p1) (hc : (decide (xs.length ≤ 1000) && walkOk ρ (.list xs) e && notStar e) = true) :
    forItems true ev ρ p (.Call (.Name f q1) [e] [] q) = .ok (xs.zipIdx.map fun (q : PyData × Nat) => PyData.tuple [.int (q.2 : Int), q.1]) p1 := by
  show (match f == ("range" : Str) with
    | true => _
    | false => match f == ("enumerate" : Str) with
      | true => enumR true ev ρ p f [e]
      | false => _) = _
  rw [hr, hf]
  exact wh (glob_ok hl) (bd (cl ha) (ob rfl (wh (by rw [Bool.and_true]; exact hc) rfl)))
noncomputable def plainIt (e : Expr) : Bool := (asCallN e).isNone
theorem fi_plain {ev : Option Int → Expr → Res PyData} {items : List PyData} {tup : Bool} (hp : plainIt e = true) (ha : ev p e = .ok d p1) (hw : walkOk ρ d e = true) (hi : itemsOf d = some items) : forItems tup ev ρ p e = .ok items p1 := by
  unfold forItems
  rw [Option.isNone_iff_eq_none.mp hp]
  exact bd ha (wh hw (oo hi))
theorem fi_call {ev : Option Int → Expr → Res PyData} {args : List Expr} {items : List PyData} {tup : Bool} (h1 : (f == ("range" : Str)) = false) (h2 : (f == ("enumerate" : Str)) = false) (ha : ev p (.Call (.Name f q1) args [] q) = .ok d p1) (hw : (flat d || noOwn ρ) = true) (hi : itemsOf d = some items) :
    forItems tup ev ρ p (.Call (.Name f q1) args [] q) = .ok items p1 := by
  show (match f == ("range" : Str) with
    | true => _
    | false => match f == ("enumerate" : Str) with
      | true => _
      | false => itemsR ev ρ p (.Call (.Name f q1) args [] q)) = _
  rw [h1, h2]
  exact bd ha (wh hw (oo hi))
theorem x_ret (h : evP n C false ρ p e = .ok d p1) : exP C (n + 1) ρ p (.Return (some e) q) = .ok (.ret d, ρ) p1 := bd h rfl
theorem x_ret_err (h : evP n C false ρ p e = .err X p1) : exP C (n + 1) ρ p (.Return (some e) q) = .err X p1 := bdE h
theorem x_raise2 {m : Str} (hc : (f == ("error" : Str) && notStar e2) = true) (hg : look ρ f = some .glob) (h1 : evP n C false ρ p e1 = .ok (.str m) p1) (h2 : evP n C false ρ p1 e2 = .ok c p2) (hf : flat c = true) :
    exP C (n + 1) ρ p (.Raise (some (.Call (.Name f q1) [e1, e2] [] q2)) none q) = .err ⟨m, c⟩ p2 :=
  have z := Bool.and_eq_true_iff.mp hc
  show raise2X (evP n C false ρ) ρ p f e1 e2 = _ from wh (by rw [z.1, z.2, show isGlob ρ f = true from glob_ok hg]; rfl) (bd h1 (bd h2 (ob rfl (wh hf rfl))))
theorem x_raise1 {u : Str} (hc : (f == ("wrong_args" : Str)) = true) (hg : look ρ f = some .glob) (h1 : evP n C false ρ p e1 = .ok (.str u) p1) (hl : u.length ≤ 1000) :
    exP C (n + 1) ρ p (.Raise (some (.Call (.Name f q1) [e1] [] q2)) none q) = .err ⟨("wrong # args: should be \"" : Str) ++ u ++ ("\"" : Str), .tuple [.str "TCL", .str "WRONGARGS"]⟩ p1 :=
  show raise1X (evP n C false ρ) ρ p f e1 = _ from wh (by rw [hc, show isGlob ρ f = true from glob_ok hg]; rfl) (bd h1 (ob rfl (wh (decide_eq_true hl) rfl)))

/-! blocks -/
theorem xs_nil {ex : Loc → Option Int → Stmt → Res (Fl × Loc)} : exsP ex [] ρ p = .ok (.next, ρ) p := rfl
theorem xs_next {ex : Loc → Option Int → Stmt → Res (Fl × Loc)} {s : Stmt} {ss : List Stmt} (h : ex ρ p s = .ok (.next, ρ1) p1) (k : exsP ex ss ρ1 p1 = r) : exsP ex (s :: ss) ρ p = r := bd h k
theorem xs_ret {ex : Loc → Option Int → Stmt → Res (Fl × Loc)} {s : Stmt} {ss : List Stmt} (h : ex ρ p s = .ok (.ret d, ρ1) p1) : exsP ex (s :: ss) ρ p = .ok (.ret d, ρ1) p1 := bd h rfl
theorem xs_err {ex : Loc → Option Int → Stmt → Res (Fl × Loc)} {s : Stmt} {ss : List Stmt} (h : ex ρ p s = .err X p1) : exsP ex (s :: ss) ρ p = .err X p1 := bdE h

/-! comprehensions -/
theorem ci_map {g : PyData → Res (Option PyData)} {h : PyData → Option PyData} : ∀ {xs : List PyData}, (∀ d ∈ xs, g d = .ok (h d) none) → compItems g xs = .ok (xs.filterMap h) none := by
  intro xs
  induction xs with
  | nil => exact fun _ => rfl
  | cons x r ih => exact fun hx => bd (hx x (.head _)) (bd (ih fun d m => hx d (.tail _ m)) (by rw [List.filterMap_cons]; cases h x <;> rfl))
theorem v_comp {elt : Expr} {gens : List Comprehension} {scope : Scope} {R : Res PyData} (h : compP (evP n quietC) (evP n C false ρ) ρ p elt gens scope = R) : evP (n + 1) C false ρ p (.ListComp elt gens scope q) = R := h
theorem it_range {ev : Option Int → Expr → Res PyData} {args : List Expr} {ds items : List PyData} (hf : (f == ("range" : Str)) = true) (hl : look ρ f = some .glob) (ha : evalsP ev args p = .ok ds p1) (hr : rangeP ds = some items) :
    iterP ev ρ p (.Call (.Name f q1) args [] q) = .ok items p1 := by
  have : rngCall (.Call (.Name f q1) args [] q) = some (f, q1, args, q) := by
    show only (f == ("range" : Str)) _ = _
    rw [hf]; rfl
  unfold iterP
  rw [this]; exact rng_ok hl ha hr
theorem it_name {ev : Option Int → Expr → Res PyData} {items : List PyData} (ha : ev p (.Name x q) = .ok d p1) (hi : itemsOf d = some items) : iterP ev ρ p (.Name x q) = .ok items p1 := bd ha (oo hi)
theorem cb_some {ev : Bool → Loc → Option Int → Expr → Res PyData} {elt : Expr} {ifs : List Expr} {c : Bool} (h : boolP (ev true ρ) .And ifs none = .ok (.bool c) none) (hc : c = true) (he : ev false ρ none elt = .ok d none) (hs : scalar d = true) : compBody ev elt ifs ρ = .ok (some d) none := bd h (onT hc (bd he (wh hs rfl)))
theorem cb_none {ev : Bool → Loc → Option Int → Expr → Res PyData} {elt : Expr} {ifs : List Expr} {c : Bool} (h : boolP (ev true ρ) .And ifs none = .ok (.bool c) none) (hc : c = false) : compBody ev elt ifs ρ = .ok none none := bd h (onF hc rfl)

/-! a def's call -/
noncomputable def retR (r : Fl × Loc) (p : Option Int) : Res PyData := backR r.1 p
noncomputable def entryL (d : DefRec) (args : List LV) : Option Loc := only (decide (d.params.args.length = args.length)) (some (locOf d.scope (d.params.args.map (·.arg)) args))
theorem call_run {D : Str → Option DefRec} {k : Nat} {rec : DefRec} {args : List LV} (hD : D f = some rec) (hE : entryL rec args = some ρ) {R : Res PyData} (h : (exsP (exP (callP D k) 60) rec.body ρ p).bind retR = R) : callP D (k + 1) f args p = R := by
  unfold entryL at hE
  cases hl : decide (rec.params.args.length = args.length) with
  | false => rw [hl] at hE; cases hE
  | true => rw [hl] at hE; cases hE; exact os hD (wh hl h)
theorem run_ok {r : Res (Fl × Loc)} {R : Res PyData} (h : r = .ok (.ret d, ρ1) p1) (hR : Res.ok d p1 = R) : r.bind retR = R := bd h hR
theorem run_err {r : Res (Fl × Loc)} {R : Res PyData} (h : r = .err X p1) (hR : Res.err X p1 = R) : r.bind retR = R := (bdE h).trans hR
end

/-! a block, whatever its first statement does -/
noncomputable def contR (ex : Loc → Option Int → Stmt → Res (Fl × Loc)) (ss : List Stmt) (r : Res (Fl × Loc)) : Res (Fl × Loc) := r.bind fun q p => match q.1 with
  | .next => exsP ex ss q.2 p
  | f => .ok (f, q.2) p
section
variable {C : CallP} {n : Nat} {ρ ρ1 : Loc} {p p1 : Option Int} {d : PyData} {q : Pos} {e : Expr} {X : Exc} {r rr : Res (Fl × Loc)} {ex : Loc → Option Int → Stmt → Res (Fl × Loc)} {s : Stmt} {ss s1 s2 : List Stmt}
theorem xs_any (h : ex ρ p s = rr) (k : contR ex ss rr = r) : exsP ex (s :: ss) ρ p = r := by
  unfold exsP; rw [h]; exact k
theorem ct_next (k : exsP ex ss ρ p = r) : contR ex ss (.ok (.next, ρ) p) = r := k
theorem ct_ret : contR ex ss (.ok (.ret d, ρ) p) = .ok (.ret d, ρ) p := rfl
theorem ct_err : contR ex ss (.err X p) = .err X p := rfl
theorem x_if {c : Bool} (h : evP n C true ρ p e = .ok (.bool c) p1) (k : cond c (exsP (exP C n) s1 ρ p1) (exsP (exP C n) s2 ρ p1) = r) : exP C (n + 1) ρ p (.If e s1 s2 q) = r := by
  cases c with
  | true => exact x_if_t h rfl k
  | false => exact x_if_f h rfl k
theorem cnd_t {α : Type} {c : Bool} {x y z : α} (hc : c = true) (k : x = z) : cond c x y = z := by rw [hc]; exact k
theorem cnd_f {α : Type} {c : Bool} {x y z : α} (hc : c = false) (k : y = z) : cond c x y = z := by rw [hc]; exact k
theorem run_any {R : Res PyData} (h : r = rr) (hR : rr.bind retR = R) : r.bind retR = R := by rw [h]; exact hR
end
end Mine

namespace Mine
open PySem PySem.W PyProof.Rows

/-! operators on texts that are written as lists of signs -/
noncomputable def mk (l : List Nat) : Str := ⟨l.toArray⟩
theorem mk_length (l : List Nat) : (mk l).length = l.length := by simp [mk, Str.length]
theorem mk_append (a b : List Nat) : mk a ++ mk b = mk (a ++ b) := by
  show (⟨a.toArray ++ b.toArray⟩ : Str) = ⟨(a ++ b).toArray⟩
  simp
theorem append_length (a b : Str) : (a ++ b).length = a.length + b.length := by
  show (a.cps ++ b.cps).size = _
  simp [Str.length]
theorem mk_inj {a b : List Nat} : mk a = mk b ↔ a = b := by
  constructor
  · intro h; injection h with h; simpa using h
  · rintro rfl; rfl
theorem mk_toList (x : Str) : x = mk x.cps.toList := by simp [mk]

theorem on {α : Type} {c : Bool} {o : Option α} {d : α} (h : c = true) (k : o = some d) : only c o = some d := by rw [h]; exact k
section
variable {i j : Int} {x y : Str} {l m : List Nat} {a : PyData} {ys : List PyData}
theorem o_add_int : binP .Add (.int i) (.int j) = some (.int (i + j)) := rfl
theorem o_sub_int : binP .Sub (.int i) (.int j) = some (.int (i - j)) := rfl
theorem nz {j : Int} (h : j ≠ 0) : (!(j == 0)) = true := by rw [beq_eq_false_iff_ne.mpr h]; rfl
theorem o_mod_int (h : j ≠ 0) : binP .Mod (.int i) (.int j) = some (.int (i.fmod j)) := on (nz h) rfl
theorem o_fdiv_int (h : j ≠ 0) (h' : j.natAbs < 1073741824) : binP .FloorDiv (.int i) (.int j) = some (.int (i.fdiv j)) := on (by rw [nz h, decide_eq_true h']; rfl) rfl
theorem o_add_str (h : (x ++ y).length ≤ sizeLine) : binP .Add (.str x) (.str y) = some (.str (x ++ y)) := on (decide_eq_true h) rfl
theorem o_add_mk (h : (l ++ m).length ≤ sizeLine) : binP .Add (.str (mk l)) (.str (mk m)) = some (.str (mk (l ++ m))) := by
  rw [o_add_str (by rw [mk_append, mk_length]; exact h), mk_append]
theorem o_lt : cmpP .Lt (.int i) (.int j) = some (decide (i < j)) := rfl
theorem o_le : cmpP .LtE (.int i) (.int j) = some (decide (i ≤ j)) := rfl
theorem o_gt : cmpP .Gt (.int i) (.int j) = some (decide (i > j)) := rfl
theorem o_ge : cmpP .GtE (.int i) (.int j) = some (decide (i ≥ j)) := rfl
theorem o_eq_int : cmpP .Eq (.int i) (.int j) = some (decide (i = j)) := rfl
theorem o_ne_int : cmpP .NotEq (.int i) (.int j) = some (!decide (i = j)) := rfl
theorem o_eq_str : cmpP .Eq (.str x) (.str y) = some (decide (x = y)) := rfl
theorem o_ne_str : cmpP .NotEq (.str x) (.str y) = some (!decide (x = y)) := rfl
theorem nil_eq : (("" : String) : Str) = mk [] := by decide +kernel
theorem o_eq_mk : cmpP .Eq (.str (mk l)) (.str (mk m)) = some (decide (l = m)) := congrArg some (decide_eq_decide.mpr mk_inj)
theorem o_eq_nil : cmpP .Eq (.str (mk l)) (.str (("" : String) : Str)) = some l.isEmpty := by
  rw [nil_eq, o_eq_mk]; cases l <;> rfl
theorem o_ne_nil : cmpP .NotEq (.str (mk l)) (.str (("" : String) : Str)) = some (!l.isEmpty) := congrArg (Option.map not) o_eq_nil
theorem o_is_none : cmpP .Is a .none = some (isNone a) := rfl
theorem o_isnot_none : cmpP .IsNot a .none = some (!isNone a) := rfl
theorem o_in_str : cmpP .In (.str x) (.str y) = some (Txt.contains y x) := rfl
theorem o_notin_str : cmpP .NotIn (.str x) (.str y) = some (!Txt.contains y x) := rfl
theorem o_in_tup (h : (PyData.canLayAll0 ys && PyData.canLay0 (.str x) && decide (min (PyData.depthAll ys) (PyData.depth (.str x)) ≤ 64)) = true) : cmpP .In (.str x) (.tuple ys) = some (ys.any fun y => PyData.eqv y (.str x)) := on h rfl
theorem o_notin_tup (h : (PyData.canLayAll0 ys && PyData.canLay0 (.str x) && decide (min (PyData.depthAll ys) (PyData.depth (.str x)) ≤ 64)) = true) : cmpP .NotIn (.str x) (.tuple ys) = some (!ys.any fun y => PyData.eqv y (.str x)) := congrArg (Option.map not) (o_in_tup h)
theorem len_eq : builtinP ("len" : Str) [a] = lenP a := by kernel_rfl
theorem o_len_str (h : x.length ≤ sizeLine) : builtinP ("len" : Str) [.str x] = some (.int x.length) := len_eq.trans (on (decide_eq_true h) rfl)
theorem o_len_mk (h : l.length ≤ sizeLine) : builtinP ("len" : Str) [.str (mk l)] = some (.int l.length) := by
  rw [o_len_str (by rw [mk_length]; exact h), mk_length]
theorem o_len_list (h : ys.length ≤ sizeLine) : builtinP ("len" : Str) [.list ys] = some (.int ys.length) := len_eq.trans (on (decide_eq_true h) rfl)
theorem seqIndex_in {k n : Nat} (h : k < n) : seqIndex? (k : Int) n = some k := by
  show (if (decide ((0 : Int) ≤ k) && decide ((k : Int) < n)) = true then some k else none) = _
  rw [if_pos (Bool.and_eq_true_iff.mpr ⟨decide_eq_true (Int.natCast_nonneg k), decide_eq_true (Int.ofNat_lt.mpr h)⟩)]
theorem o_at (h0 : 0 ≤ i) (h1 : i < l.length ∧ l.length < 1000000) : subP (.str (mk l)) (.int i) = some (.str (mk [l.getD i.toNat 0])) := by
  obtain ⟨k, rfl⟩ := Int.eq_ofNat_of_zero_le h0
  have hk : k < l.length := by omega
  have hc : Txt.charAt (mk l) (k : Int) = some (l.getD k 0) := by
    unfold Txt.charAt
    rw [mk_length, seqIndex_in hk]
    simp [mk, hk, List.getD]
  have hf : fitsSsize (k : Int) = true := by unfold fitsSsize; simp; omega
  exact on (by rw [hf, hc]; rfl) (by unfold Txt.item; rw [hc]; rfl)
theorem o_pick (h0 : 0 ≤ i) (h1 : i < ys.length ∧ ys.length < 1000000) {d : PyData} (hd : ys[i.toNat]? = some d) : subP (.list ys) (.int i) = some d := by
  obtain ⟨k, rfl⟩ := Int.eq_ofNat_of_zero_le h0
  have hk : k < ys.length := by omega
  have h2 : (k : Int) < 2 ^ 63 := Int.lt_of_lt_of_le (show (k : Int) < 1000000 by omega) (by decide)
  unfold subP
  show (intOf (.int (k : Int))).bind (seqAt ys) = some d
  unfold intOf
  rw [Option.bind_some]
  unfold seqAt
  exact on (Bool.and_eq_true_iff.mpr ⟨decide_eq_true (Int.le_trans (by decide) (Int.natCast_nonneg k)), decide_eq_true h2⟩) (by rw [seqIndex_in hk]; exact hd)
theorem range_up (a n : Nat) (L : List Nat) : ((List.range n).map fun (k : Nat) => ((a : Int) + 1 * (k : Int)).toNat).filterMap (L.toArray[·]?) = (L.drop a).take n := by
  induction n generalizing a with
  | zero => simp
  | succ n ih =>
    rw [List.range_succ_eq_map, List.map_cons, List.filterMap_cons, List.map_map]
    have e : ((fun (k : Nat) => ((a : Int) + 1 * (k : Int)).toNat) ∘ Nat.succ) = fun (k : Nat) => (((a + 1 : Nat) : Int) + 1 * (k : Int)).toNat := by 
      funext k
      show ((a : Int) + 1 * ((k : Int) + 1)).toNat = ((a : Int) + 1 + 1 * (k : Int)).toNat
      rw [Int.one_mul, Int.one_mul, Int.add_assoc, Int.add_comm 1]
    rw [e, ih (a + 1)]
    have e0 : ((a : Int) + 1 * ((0 : Nat) : Int)).toNat = a := by simp
    rw [e0]
    by_cases h : a < L.length
    · have : L.toArray[a]? = some L[a] := by simp [h]
      rw [this]; show L[a] :: _ = _; rw [List.drop_eq_getElem_cons h, List.take_succ_cons]
    · simp [h, List.drop_eq_nil_of_le (Nat.le_of_not_lt h), List.drop_eq_nil_of_le (by lia : L.length ≤ a + 1)]
noncomputable def clipF (n : Int) (v : Option Int) (d : Int) : Int := match v with
  | none => d
  | some i => max 0 (min (if i < 0 then i + n else i) n)
theorem clip_nat {n : Nat} {i d : Int} (h : 0 ≤ i) : clipF n (some i) d = ((min i.toNat n : Nat) : Int) := by
  show max 0 (min (if i < 0 then i + n else i) n) = _
  rw [if_neg (Int.not_lt.mpr h)]
  obtain ⟨k, rfl⟩ := Int.eq_ofNat_of_zero_le h
  rw [Int.toNat_natCast]
  rcases Nat.le_total k n with h | h
  · rw [Nat.min_eq_left h, Int.min_eq_left (Int.ofNat_le.mpr h)]; exact Int.max_eq_right (Int.natCast_nonneg _)
  · rw [Nat.min_eq_right h, Int.min_eq_right (Int.ofNat_le.mpr h)]; exact Int.max_eq_right (Int.natCast_nonneg _)
theorem count_up (a b : Nat) : (if (1 : Int) > 0 then (if (a : Int) < b then ((b : Int) - a + 1 - 1) / 1 else 0) else (if (a : Int) > b then ((a : Int) - b - 1 - 1) / (-1) else 0)).toNat = b - a := by
  rw [if_pos (by decide), Int.ediv_one, Int.add_sub_cancel]
  split
  · exact Int.toNat_sub ..
  · rename_i h; exact (Nat.sub_eq_zero_of_le (Int.ofNat_le.mp (Int.not_lt.mp h))).symm
theorem take_all {l : List Nat} {a b : Nat} (h : b - a = l.length) (hb : b ≤ l.length) : (l.drop a).take (b - a) = l := by
  cases l with
  | nil => rw [List.drop_nil, List.take_nil]
  | cons x r =>
    obtain rfl : a = 0 := by rw [List.length_cons] at h hb; omega
    rw [h]; exact List.take_length
theorem slice_up {lo hi : Option Int} {a b : Nat} (e1 : clipF l.length lo 0 = (a : Int)) (e2 : clipF l.length hi l.length = (b : Int)) (hb : b ≤ l.length) (hl : l.length ≤ sizeLine) :
    sliceP (.str (mk l)) lo hi none = some (.str (mk ((l.drop a).take (b - a)))) := by
  have hidx : strPick (mk l) lo hi none = (List.range (b - a)).map fun (k : Nat) => ((a : Int) + 1 * (k : Int)).toNat := by
    have e3 : Builtin.Str.strSliceIndices lo hi ((none : Option Int).getD 1) l.length = sliceRange (clipF l.length lo 0) (clipF l.length hi l.length) 1 := by
      cases lo <;> cases hi <;> rfl
    unfold strPick
    rw [mk_length, e3, e1, e2]
    exact congrArg (fun n => (List.range n).map fun (k : Nat) => ((a : Int) + 1 * (k : Int)).toNat) (count_up a b)
  refine on (by rw [mk_length, decide_eq_true hl]; rfl) (congrArg (fun s => some (PyData.str s)) ?_)
  unfold strSlice
  rw [hidx]
  split
  · rename_i hc
    have hc := eq_of_beq (Bool.and_eq_true_iff.mp hc).2
    rw [List.length_map, List.length_range, mk_length] at hc
    rw [take_all hc hb]
  · exact congrArg mk (range_up a (b - a) l)
theorem cut_eq {l : List Nat} {i j : Nat} : (l.drop (min i l.length)).take (min j l.length - min i l.length) = (l.take j).drop i := by
  rw [List.drop_take, ← List.drop_eq_drop_min]
  by_cases h : i ≤ l.length
  · rw [Nat.min_eq_left h]
    by_cases h' : j ≤ l.length
    · rw [Nat.min_eq_left h']
    · have h' := Nat.le_of_not_le h'
      rw [Nat.min_eq_right h', List.take_of_length_le (Nat.le_of_eq List.length_drop), List.take_of_length_le (Nat.le_trans (Nat.le_of_eq List.length_drop) (Nat.sub_le_sub_right h' i))]
  · rw [List.drop_eq_nil_of_le (Nat.le_of_not_le h), List.take_nil, List.take_nil]
theorem o_cut (h0 : 0 ≤ i) (h1 : 0 ≤ j) (hl : l.length ≤ sizeLine) : sliceP (.str (mk l)) (some i) (some j) none = some (.str (mk ((l.take j.toNat).drop i.toNat))) := by
  rw [slice_up (clip_nat h0) (clip_nat h1) (Nat.min_le_right _ _) hl, cut_eq]
theorem o_cutL (h1 : 0 ≤ j) (hl : l.length ≤ sizeLine) : sliceP (.str (mk l)) none (some j) none = some (.str (mk (l.take j.toNat))) := by
  rw [slice_up (a := 0) rfl (clip_nat h1) (Nat.min_le_right _ _) hl, Nat.sub_zero, List.drop_zero, ← List.take_eq_take_min]
theorem o_cutR (h0 : 0 ≤ i) (hl : l.length ≤ sizeLine) : sliceP (.str (mk l)) (some i) none none = some (.str (mk (l.drop i.toNat))) := by
  rw [slice_up (clip_nat h0) rfl (Nat.le_refl _) hl, ← List.drop_eq_drop_min]
  exact congrArg (fun l => some (PyData.str (mk l))) (List.take_of_length_le (Nat.le_trans (Nat.le_of_eq List.length_drop) (Nat.sub_le_sub_left (Nat.min_le_left _ _) _)))
end
noncomputable def callF (C : CallP) (f : Str) (args : List LV) (p : Option Int) : Res PyData := onSome (D0 f) fun d => Res.when (decide (d.params.args.length = args.length)) ((exsP (exP C nestFuel) d.body (locOf d.scope (d.params.args.map (·.arg)) args) p).bind fun r p => backR r.1 p)
theorem walk_flat {ρ : Loc} {d : PyData} {e : Expr} (h : flat d = true) : walkOk ρ d e = true := by unfold walkOk; rw [h, Bool.true_or, Bool.or_true]
theorem it_mk {l : List Nat} : itemsOf (.str (mk l)) = some (l.map fun u => .str (mk [u])) := by
  show some (charsOf (mk l)) = _
  unfold charsOf mk; rfl
theorem o_ord {u : Nat} : builtinP ("ord" : Str) [.str (mk [u])] = some (.int u) := by kernel_rfl
theorem o_mul_small {v b : Int} (h : Builtin.Int.intBits b ≤ 64) : binP .Mult (.int v) (.int b) = some (.int (v * b)) :=
  have e : decide (Builtin.Int.intBits b > shortFactorBits) = false := decide_eq_false (Nat.not_lt.mpr h)
  show mulInts v b = _ from on (by rw [e, Bool.and_false, Bool.false_and]; rfl) rfl
noncomputable def olv : Option PyData → LV
  | none => .unb
  | some d => .val d
theorem loc_olv {o : Option PyData} : locLV (olv o) = true := by cases o <;> rfl

/-! loops -/
noncomputable def foldR {α σ : Type} (f : σ → α → Option σ) (rl : σ → α → Loc) : List α → σ → Except Loc σ
  | [], s => .ok s
  | a :: r, s => match f s a with
    | some s' => foldR f rl r s'
    | none => .error (rl s a)
section
variable {α σ : Type} {bd : PyData → Loc → Option Int → Res (Fl × Loc)} {p : Option Int} {g : α → PyData} {inv : σ → Loc} {f : σ → α → Option σ} {rl : σ → α → Loc} {rv : PyData}
theorem for_fold (hn : ∀ s a s', f s a = some s' → bd (g a) (inv s) p = .ok (.next, inv s') p) (hr : ∀ s a, f s a = none → bd (g a) (inv s) p = .ok (.ret rv, rl s a) p) : ∀ (l : List α) (s : σ),
    forP bd (l.map g) (inv s) p = match foldR f rl l s with | .ok s' => .ok (.next, inv s') p | .error ρ => .ok (.ret rv, ρ) p
  | [], s => rfl
  | a :: r, s => by
    rw [List.map_cons]
    unfold foldR
    cases h : f s a with
    | some s' => rw [f_cons (hn s a s' h) rfl]; exact for_fold hn hr r s'
    | none => rw [f_ret (hr s a h)]
theorem for_next {l : List α} {s s' : σ} (h : foldR f rl l s = .ok s') (hn : ∀ s a s', f s a = some s' → bd (g a) (inv s) p = .ok (.next, inv s') p) (hr : ∀ s a, f s a = none → bd (g a) (inv s) p = .ok (.ret rv, rl s a) p) :
    forP bd (l.map g) (inv s) p = .ok (.next, inv s') p := by rw [for_fold hn hr, h]
theorem for_ret {l : List α} {s : σ} {ρ : Loc} (h : foldR f rl l s = .error ρ) (hn : ∀ s a s', f s a = some s' → bd (g a) (inv s) p = .ok (.next, inv s') p) (hr : ∀ s a, f s a = none → bd (g a) (inv s) p = .ok (.ret rv, rl s a) p) :
    forP bd (l.map g) (inv s) p = .ok (.ret rv, ρ) p := by rw [for_fold hn hr, h]
end
theorem for_all {α : Type} {bd : PyData → Loc → Option Int → Res (Fl × Loc)} {g : α → PyData} {R : Loc → Option Int → Prop} (hn : ∀ a ρ p, R ρ p → ∃ ρ' p', bd (g a) ρ p = .ok (.next, ρ') p' ∧ R ρ' p') : ∀ (l : List α) (ρ : Loc) (p : Option Int), R ρ p → ∃ ρ' p', forP bd (l.map g) ρ p = .ok (.next, ρ') p' ∧ R ρ' p'
  | [], ρ, p, h => ⟨ρ, p, rfl, h⟩
  | a :: r, ρ, p, h => by
    obtain ⟨ρ1, p1, e, h1⟩ := hn a ρ p h
    obtain ⟨ρ2, p2, e2, h2⟩ := for_all hn r ρ1 p1 h1
    exact ⟨ρ2, p2, by rw [List.map_cons, f_cons e e2], h2⟩
theorem while_count {t : Loc → Option Int → Res PyData} {bd : Loc → Option Int → Res (Fl × Loc)} {p : Option Int} {inv : Nat → Loc} {N : Nat} (hs : ∀ i, i < N → t (inv i) p = .ok (.bool true) p ∧ bd (inv i) p = .ok (.next, inv (i + 1)) p) (he : t (inv N) p = .ok (.bool false) p) :
    ∀ (fuel i : Nat), i ≤ N → N < fuel + i → whileP t bd fuel (inv i) p = .ok (.next, inv N) p
  | 0, i, h1, h2 => by lia
  | k + 1, i, h1, h2 => by
    by_cases h : i = N
    · subst h; exact w_f he rfl
    · obtain ⟨a, b⟩ := hs i (by lia)
      exact w_t a rfl b (while_count hs he k (i + 1) (by lia) (by lia))
theorem while_ret {t : Loc → Option Int → Res PyData} {bd : Loc → Option Int → Res (Fl × Loc)} {p : Option Int} {inv : Nat → Loc} {N : Nat} {d : PyData} {ρ : Loc} (hs : ∀ i, i < N → t (inv i) p = .ok (.bool true) p ∧ bd (inv i) p = .ok (.next, inv (i + 1)) p) (he : t (inv N) p = .ok (.bool true) p) (hb : bd (inv N) p = .ok (.ret d, ρ) p) :
    ∀ (fuel i : Nat), i ≤ N → N < fuel + i → whileP t bd fuel (inv i) p = .ok (.ret d, ρ) p
  | 0, i, h1, h2 => by lia
  | k + 1, i, h1, h2 => by
    by_cases h : i = N
    · subst h; exact w_ret he rfl hb
    · obtain ⟨a, b⟩ := hs i (by lia)
      exact w_t a rfl b (while_ret hs he hb k (i + 1) (by lia) (by lia))
/-- the first number at which q fails -/
noncomputable def lead (q : Nat → Bool) : Nat → Nat → Nat
  | 0, i => i
  | k + 1, i => match q i with
    | true => lead q k (i + 1)
    | false => i
theorem lead_spec (q : Nat → Bool) : ∀ k i, i ≤ lead q k i ∧ lead q k i ≤ i + k ∧ (∀ j, i ≤ j → j < lead q k i → q j = true) ∧ (lead q k i < i + k → q (lead q k i) = false)
  | 0, i => ⟨Nat.le_refl _, Nat.le_refl _, fun j a b => absurd b (Nat.not_lt.mpr a), fun h => absurd h (Nat.lt_irrefl _)⟩
  | k + 1, i => by
    unfold lead
    cases h : q i with
    | true =>
      obtain ⟨a, b, c, d⟩ := lead_spec q k (i + 1)
      refine ⟨by simp only; lia, by simp only; lia, fun j h1 h2 => ?_, fun h1 => d (by simp only at h1; lia)⟩
      by_cases hj : j = i
      · rw [hj]; exact h
      · exact c j (by lia) h2
    | false => exact ⟨Nat.le_refl _, by simp only; lia, fun j a b => absurd b (Nat.not_lt.mpr a), fun _ => h⟩
/-- a loop that goes on as long as q holds -/
theorem while_lead {t : Loc → Option Int → Res PyData} {bd : Loc → Option Int → Res (Fl × Loc)} {p : Option Int} {inv : Nat → Loc} {q : Nat → Bool} {K s : Nat} (ht : ∀ i, s ≤ i → i ≤ s + K → t (inv i) p = .ok (.bool (q i)) p) (hb : ∀ i, s ≤ i → q i = true → bd (inv i) p = .ok (.next, inv (i + 1)) p)
    (hz : q (s + K) = false) (hK : K < whileFuel) : whileP t bd whileFuel (inv s) p = .ok (.next, inv (lead q K s)) p := by
  have hA := lead_spec q K s
  have hi : ∀ i, s + i < lead q K s → q (s + i) = true := fun i h => hA.2.2.1 (s + i) (Nat.le_add_right _ _) h
  obtain ⟨N, hN⟩ := Nat.exists_eq_add_of_le hA.1
  have hNK : N ≤ K := Nat.le_of_add_le_add_left (hN ▸ hA.2.1)
  have he : q (s + N) = false := (Nat.eq_or_lt_of_le hNK).elim (fun h => h ▸ hz) fun h => hN ▸ hA.2.2.2 (hN ▸ Nat.add_lt_add_left h s)
  rw [hN] at hi ⊢
  exact while_count (inv := fun i => inv (s + i)) (N := N) (fun i h => have h' := hi i (Nat.add_lt_add_left h s); ⟨h' ▸ ht (s + i) (Nat.le_add_right _ _) (Nat.add_le_add_left (Nat.le_of_lt (Nat.lt_of_lt_of_le h hNK)) s), hb (s + i) (Nat.le_add_right _ _) h'⟩) (he ▸ ht (s + N) (Nat.le_add_right _ _) (Nat.add_le_add_left hNK s)) whileFuel 0 (Nat.zero_le _) (Nat.lt_of_le_of_lt hNK hK)
theorem nn_int {i : Int} : isNone (.int i) = false := rfl
theorem nn_not_int {i : Int} : (!isNone (.int i)) = true := rfl
theorem nn_none : isNone .none = true := rfl
theorem nn_not_none : (!isNone .none) = false := rfl
theorem b_nil_and {ev : Option Int → Expr → Res PyData} {p : Option Int} : boolP ev .And [] p = .ok (.bool true) p := rfl
theorem b_nil_or {ev : Option Int → Expr → Res PyData} {p : Option Int} : boolP ev .Or [] p = .ok (.bool false) p := rfl
theorem o_starts {x y : Str} : methodP (.str x) ("startswith" : Str) [.str y] = some (.bool (Txt.startswith x y)) := by kernel_rfl
theorem b_one {ev : Option Int → Expr → Res PyData} {p p1 : Option Int} {op : BoolOp} {e : Expr} {c : Bool} (h : ev p e = .ok (.bool c) p1) : boolP ev op [e] p = .ok (.bool c) p1 := by
  cases op <;> cases c <;> exact bd h rfl
theorem walk_val {ρ : Loc} {d d' : PyData} {x : Str} {q : Pos} (h : look ρ x = some (.val d')) : walkOk ρ d (.Name x q) = true := by
  show (isValL (look ρ x) || _) = true
  rw [h]; rfl
end Mine

namespace Mine
open PySem PySem.W PyProof.Rows
set_option compiler.extract_closed false
set_option hygiene false
local macro_rules | `(tactic| walk_at "m lk") => `(tactic| first
  | with_reducible exact look_hit
  | (with_reducible apply look_miss); kernel_rfl; walk_at "m lk")
local macro_rules | `(tactic| walk_at "m loc") => `(tactic| first
  | (with_reducible apply isLocal_hit); rfl
  | (with_reducible apply isLocal_miss); kernel_rfl; walk_at "m loc")
local macro_rules | `(tactic| walk_at "m put") => `(tactic| first
  | with_reducible exact put_hit
  | (with_reducible apply put_miss); kernel_rfl; walk_at "m put")
local macro_rules | `(tactic| walk_at "m set") => `(tactic| first
  | (with_reducible apply sv_hit); (first | rfl | exact loc_olv); rfl
  | (with_reducible apply sv_miss); kernel_rfl; rfl; walk_at "m set"
  | (with_reducible apply sv_list); rfl; walk_at "m loc"; walk_at "m put")
local macro_rules | `(tactic| walk_at "m sets") => `(tactic| first
  | with_reducible exact svs_nil
  | (with_reducible apply svs_cons); walk_at "m set"; walk_at "m sets")
local macro_rules | `(tactic| walk_at "m pa") => `(tactic| first
  | with_reducible exact pa_nil
  | (with_reducible apply pa_cons); walk_at "m loc"; walk_at "m put"; walk_at "m pa")
local macro_rules | `(tactic| walk_at "m pn") => `(tactic| first
  | (with_reducible apply pn_name); walk_at "m lk"; rfl
  | rfl)
local macro_rules | `(tactic| walk_at "m sz") => `(tactic| first | (with_reducible assumption) | simp only [sizeLine_eq, mk_length, append_length, mk_append, List.length_append, List.length_cons, List.length_nil, List.length_take, List.length_drop] <;> omega | decide +kernel)
local macro_rules | `(tactic| walk_at "m op") => `(tactic| first
  | (with_reducible first | exact o_add_int | exact o_ord | exact o_starts | exact o_sub_int | exact o_lt | exact o_le | exact o_gt | exact o_ge | exact o_eq_int | exact o_ne_int | exact o_eq_nil | exact o_ne_nil | exact o_eq_mk | exact o_eq_str | exact o_is_none | exact o_isnot_none | exact o_in_str | exact o_notin_str)
  | (with_reducible first | apply o_in_tup | apply o_notin_tup); walk_at "m lay"
  | (with_reducible first | apply o_add_mk | apply o_add_str | apply o_len_mk | apply o_len_list); walk_at "m sz"
  | (with_reducible apply o_at); walk_at "m ix"; walk_at "m ix"
  | (with_reducible apply o_pick); walk_at "m ix"; walk_at "m lx"; rfl
  | (with_reducible apply o_cut); walk_at "m ix"; walk_at "m ix"; walk_at "m sz"
  | (with_reducible first | apply o_cutL | apply o_cutR); walk_at "m ix"; walk_at "m sz")
local macro_rules | `(tactic| walk_at "m lx") => `(tactic| first | (with_reducible assumption) | omega | (simp only [List.length_cons, List.length_nil]); omega)
local macro_rules | `(tactic| walk_at "m ix") => `(tactic| first | (with_reducible assumption) | omega | decide)
local macro_rules | `(tactic| walk_at "m lay") => `(tactic| first | (with_reducible assumption) | decide +kernel)
local macro_rules | `(tactic| walk_at "m c") => `(tactic| first | with_reducible assumption | (with_reducible first | exact nn_int | exact nn_not_int | exact nn_none | exact nn_not_none) | decide +kernel | exact decide_eq_true (by first | (with_reducible assumption) | omega) | exact decide_eq_false (by first | (with_reducible assumption) | omega) | (simp only [List.length_cons, List.length_nil, Bool.and_eq_true, Bool.or_eq_true, decide_eq_true_eq, Bool.and_eq_false_iff, Bool.or_eq_false_iff, decide_eq_false_iff_not, Bool.not_eq_true', Bool.not_eq_false']); omega | simp [*]; done | simp [*] <;> omega)
local macro_rules | `(tactic| walk_at "m call") => `(tactic| with_reducible assumption)
local macro_rules | `(tactic| walk_at "m evs") => `(tactic| first
  | with_reducible exact es_nil
  | (with_reducible apply es_cons); rfl; walk_at "m ev"; walk_at "m evs")
local macro_rules | `(tactic| walk_at "m args") => `(tactic| first
  | with_reducible exact as_nil
  | (with_reducible apply as_pen); walk_at "m lk"; walk_at "m args"
  | (with_reducible apply as_cons); rfl; walk_at "m pn"; walk_at "m ev"; walk_at "m args")
local macro_rules | `(tactic| walk_at "m pt") => `(tactic| first
  | with_reducible exact pt_none
  | (with_reducible apply pt_some); walk_at "m ev")
local macro_rules | `(tactic| walk_at "m ev") => `(tactic| first
  | (with_reducible first | exact v_int | exact v_str | exact v_none | exact v_bool)
  | (with_reducible apply v_name); walk_at "m lk"
  | (with_reducible apply v_own); walk_at "m lk"
  | (with_reducible apply v_cell); walk_at "m lk"
  | (with_reducible apply v_bin); walk_at "m ev"; walk_at "m ev"; walk_at "m op"
  | (with_reducible apply v_neg); walk_at "m ev"
  | (with_reducible apply v_cmp); rfl; walk_at "m ev"; walk_at "m ev"; walk_at "m op"
  | (with_reducible apply v_tuple); walk_at "m evs"; walk_at "m sz"
  | (with_reducible apply v_list); walk_at "m evs"; walk_at "m sz"
  | (with_reducible apply v_call); rfl; walk_at "m lk"; kernel_rfl; walk_at "m args"; walk_at "m call"
  | (with_reducible apply v_builtin); rfl; walk_at "m lk"; kernel_rfl; walk_at "m evs"; walk_at "m op"
  | (with_reducible apply v_meth1); rfl; walk_at "m ev"; walk_at "m ev"; walk_at "m op"
  | (with_reducible apply v_slice); walk_at "m ev"; walk_at "m pt"; walk_at "m pt"; walk_at "m pt"; walk_at "m op"
  | (with_reducible apply v_pen); walk_at "m lk"
  | (with_reducible apply v_sub); rfl; walk_at "m pn"; walk_at "m ev"; walk_at "m ev"; walk_at "m op"
  | (with_reducible apply v_ift); walk_at "m t"; walk_at "m c"; walk_at "m ev"
  | (with_reducible apply v_iff); walk_at "m t"; walk_at "m c"; walk_at "m ev"
  | (with_reducible apply v_and_t); walk_at "m ev"; walk_at "m c"; walk_at "m ev")
local macro_rules | `(tactic| walk_at "m b") => `(tactic| first
  | (with_reducible first | exact b_nil_and | exact b_nil_or)
  | (with_reducible apply b_and_t); walk_at "m t"; walk_at "m c"; walk_at "m b"
  | (with_reducible apply b_and_f); walk_at "m t"; walk_at "m c"
  | (with_reducible apply b_or_f); walk_at "m t"; walk_at "m c"; walk_at "m b"
  | (with_reducible apply b_or_t); walk_at "m t"; walk_at "m c"
  | (with_reducible apply b_one); walk_at "m t")
local macro_rules | `(tactic| walk_at "m t") => `(tactic| first
  | (with_reducible apply t_not); walk_at "m t"
  | (with_reducible apply t_bool); walk_at "m b"
  | (with_reducible apply t_cmp); rfl; walk_at "m ev"; walk_at "m ev"; walk_at "m op"
  | (with_reducible apply t_cmp2); rfl; walk_at "m ev"; walk_at "m ev"; walk_at "m op"; walk_at "m ev"; walk_at "m op"
  | (with_reducible first | apply t_name | apply t_call | apply t_meth); walk_at "m ev")
local macro_rules | `(tactic| walk_at "m ps") => `(tactic| first
  | with_reducible exact ps_nil
  | (with_reducible apply ps_own); walk_at "m ev"; rfl; walk_at "m ps"
  | (with_reducible apply ps_cons); rfl; walk_at "m ev"; rfl; walk_at "m ps")
local macro_rules | `(tactic| walk_at "m er") => `(tactic| (with_reducible apply v_call); rfl; walk_at "m lk"; kernel_rfl; walk_at "m args"; walk_at "m call")
local macro_rules | `(tactic| walk_at "m x") => `(tactic| first
  | (with_reducible apply x_ret); walk_at "m ev"
  | (with_reducible apply x_ret_err); walk_at "m er"
  | (with_reducible apply x_assign); rfl; walk_at "m ev"; walk_at "m set"
  | (with_reducible apply x_assign_err); rfl; walk_at "m er"
  | (with_reducible apply x_swap); kernel_rfl; kernel_rfl; walk_at "m ps"; ((show putAll _ [_, _] [_, _] = _; walk_at "m pa"))
  | (with_reducible apply x_swap); kernel_rfl; kernel_rfl; walk_at "m ps"; ((show putAll _ [_, _, _] [_, _, _] = _; walk_at "m pa"))
  | (with_reducible apply x_tuple); rfl; walk_at "m ev"; walk_at "m sets"
  | (with_reducible apply x_aug_add); walk_at "m lk"; walk_at "m ev"; walk_at "m set"
  | (with_reducible apply x_aug_sub); walk_at "m lk"; walk_at "m ev"; walk_at "m set"
  | (with_reducible apply x_if); walk_at "m t"; (first | (with_reducible apply cnd_t); walk_at "m c"; walk_at "m st" | (with_reducible apply cnd_f); walk_at "m c"; walk_at "m st")
  | (with_reducible apply x_raise2); kernel_rfl; walk_at "m lk"; walk_at "m ev"; walk_at "m ev"; rfl
  | (with_reducible apply x_append); kernel_rfl; walk_at "m lk"; walk_at "m ev"; rfl; walk_at "m lx"; walk_at "m put"
  | (with_reducible apply x_pen); walk_at "m lk"; walk_at "m ev")
local macro_rules | `(tactic| walk_at "m turn") => `(tactic| first | apply turn_name; walk_at "m set"; walk_at "m st" | apply turn_tuple; walk_at "m sets"; walk_at "m st")
local macro_rules | `(tactic| walk_at "m items") => `(tactic| first
  | (with_reducible apply fi_range); kernel_rfl; walk_at "m lk"; walk_at "m evs"; walk_at "m op"
  | (with_reducible apply fi_plain); rfl; walk_at "m ev"; (first | exact walk_flat rfl | apply walk_val; walk_at "m lk"); (first | (with_reducible assumption) | with_reducible exact it_mk | rfl))
local macro_rules | `(tactic| walk_at "m st") => `(tactic| first
  | with_reducible exact xs_nil
  | (with_reducible apply xs_any); walk_at "m x"; (first | (with_reducible first | exact ct_ret | exact ct_err) | (with_reducible apply ct_next); walk_at "m st"))
local macro_rules | `(tactic| walk_at "m run") => `(tactic| (conv => lhs; arg 1; arg 2; whnf); (with_reducible apply run_any); walk_at "m st"; rfl)
local macro_rules | `(tactic| walk_at "m s1") => `(tactic| (with_reducible apply xs_any); walk_at "m x"; (with_reducible apply ct_next))
local macro_rules | `(tactic| walk_at "m f0") => `(tactic| (with_reducible apply xs_any); (with_reducible apply x_for); walk_at "m items")
local macro_rules | `(tactic| walk_at "m w0") => `(tactic| (with_reducible apply xs_any); (with_reducible apply x_while))
local macro_rules | `(tactic| walk_at "m r0") => `(tactic| (conv => lhs; arg 1; arg 2; whnf); with_reducible apply run_any)
local macro_rules | `(tactic| walk_at "m sh") => `(tactic| show exsP _ _ (_ :: _) _ = _)
local macro_rules | `(tactic| walk_at "m op") => `(tactic| with_reducible assumption)
set_option compiler.extract_closed true
set_option hygiene true
section
theorem sizeLine_big : 1000000 ≤ sizeLine := by decide +kernel
theorem sz9 {n : Nat} (h : n < 1000) : n ≤ sizeLine := Nat.le_trans (Nat.le_of_lt h) (Nat.le_trans (by decide) sizeLine_big)
theorem sz8 {n : Nat} (h : n < 900) : n ≤ sizeLine := sz9 (Nat.lt_of_lt_of_le h (by decide))

noncomputable def blankS (x : Str) : Bool := [PyData.str " ", .str "\t", .str "\n", .str "\x0b", .str "\x0c", .str "\r"].any fun y => PyData.eqv y (.str x)
theorem d_is_blank {k : Nat} {p : Option Int} {x : Str} (h : PyData.strOk x = true) : callP D0 (k + 1) "is_blank" [.val (.str x)] p = .ok (.bool (blankS x)) p := by
  have hl : (PyData.canLayAll0 [PyData.str " ", .str "\t", .str "\n", .str "\x0b", .str "\x0c", .str "\r"] && PyData.canLay0 (.str x) && decide (min (PyData.depthAll [PyData.str " ", .str "\t", .str "\n", .str "\x0b", .str "\x0c", .str "\r"]) (PyData.depth (.str x)) ≤ 64)) = true := by
    have a : PyData.canLayAll0 [PyData.str " ", .str "\t", .str "\n", .str "\x0b", .str "\x0c", .str "\r"] = true := by decide +kernel
    have b : PyData.canLay0 (.str x) = true := by rw [PyData.canLay0]; exact h
    rw [a, b]; rfl
  refine call_run (rec := recL 5) (ρ := [("c", .val (.str x))]) (by kernel_rfl) (by kernel_rfl) ?_
  walk_at "m run"

theorem d_base_of {k : Nat} {p : Option Int} {x : Str} (h : PyData.strOk x = true) : callP D0 (k + 1) "base_of" [.val (.str x)] p = .ok (.int (
    cond ([PyData.str "x", .str "X"].any fun y => PyData.eqv y (.str x)) 16 (cond ([PyData.str "o", .str "O"].any fun y => PyData.eqv y (.str x)) 8 (cond ([PyData.str "b", .str "B"].any fun y => PyData.eqv y (.str x)) 2 (cond ([PyData.str "d", .str "D"].any fun y => PyData.eqv y (.str x)) 10 0))))) p := by
  have hl : ∀ a b : Str, PyData.strOk a = true → PyData.strOk b = true → (PyData.canLayAll0 [.str a, .str b] && PyData.canLay0 (.str x) && decide (min (PyData.depthAll [.str a, .str b]) (PyData.depth (.str x)) ≤ 64)) = true := by
    intro a b ha hb
    have a' : PyData.canLayAll0 [PyData.str a, .str b] = true := by
      simp only [PyData.canLayAll0, PyData.canLay0, ha, hb, Bool.and_self]
    have b' : PyData.canLay0 (.str x) = true := by rw [PyData.canLay0]; exact h
    rw [a', b']; rfl
  have h1 := hl "x" "X" (by decide +kernel) (by decide +kernel)
  have h2 := hl "o" "O" (by decide +kernel) (by decide +kernel)
  have h3 := hl "b" "B" (by decide +kernel) (by decide +kernel)
  have h4 := hl "d" "D" (by decide +kernel) (by decide +kernel)
  refine call_run (rec := recL 8) (ρ := [("mark", .val (.str x))]) (by kernel_rfl) (by kernel_rfl) ?_
  cases c1 : [PyData.str "x", .str "X"].any fun y => PyData.eqv y (.str x)
  · cases c2 : [PyData.str "o", .str "O"].any fun y => PyData.eqv y (.str x)
    · cases c3 : [PyData.str "b", .str "B"].any fun y => PyData.eqv y (.str x)
      · cases c4 : [PyData.str "d", .str "D"].any fun y => PyData.eqv y (.str x)
        · walk_at "m run"
        · walk_at "m run"
      · walk_at "m run"
    · walk_at "m run"
  · walk_at "m run"

theorem d_draw {k : Nat} {i m : Int} (h : m ≠ 0) (h' : m.natAbs < 1073741824) : callP D0 (k + 1) "_law_draw" [.pen, .val (.int m)] (some i) = .ok (.int (i.fmod m)) (some (i.fdiv m)) := by
  have o1 := o_mod_int (i := i) h
  have o2 := o_fdiv_int (i := i) h h'
  refine call_run (rec := recL 39) (ρ := [("pen", .pen), ("many", .val (.int m)), ("drawn", .unb)]) (by kernel_rfl) (by kernel_rfl) ?_
  walk_at "m run"
end

section

noncomputable def digitF (u : Nat) : Int := if 48 ≤ u ∧ u ≤ 57 then u - 48 else if 97 ≤ u ∧ u ≤ 122 then u - 87 else if 65 ≤ u ∧ u ≤ 90 then u - 55 else -1
theorem d_digit {k : Nat} {p : Option Int} {u : Nat} : callP D0 (k + 1) "digit" [.val (.str (mk [u]))] p = .ok (.int (digitF u)) p := by
  refine call_run (rec := recL 6) (ρ := [("c", .val (.str (mk [u]))), ("n", .unb), ("len", .glob), ("ord", .glob)]) (by kernel_rfl) (by kernel_rfl) ?_
  unfold digitF
  by_cases h1 : 48 ≤ u ∧ u ≤ 57
  · rw [if_pos h1]; walk_at "m run"
  rw [if_neg h1]
  by_cases h2 : 97 ≤ u ∧ u ≤ 122
  · rw [if_pos h2]; walk_at "m run"
  rw [if_neg h2]
  by_cases h3 : 65 ≤ u ∧ u ≤ 90
  · rw [if_pos h3]; walk_at "m run"
  rw [if_neg h3]
  walk_at "m run"

/-- the value of digits -/
noncomputable def dvF (b : Int) : List Nat → Int → Option Int
  | [], v => some v
  | u :: r, v => if digitF u < 0 ∨ digitF u ≥ b then none else dvF b r (v * b + digitF u)
noncomputable def optI : Option Int → PyData
  | some i => .int i
  | none => .none
noncomputable def digitsF (l : List Nat) (b : Int) : Option Int := if l = [] then none else dvF b l 0

noncomputable def fvF (b : Int) (s : Int × Option PyData × Option PyData) (u : Nat) : Option (Int × Option PyData × Option PyData) := if digitF u < 0 ∨ digitF u ≥ b then none else some (s.1 * b + digitF u, some (.str (mk [u])), some (.int (digitF u)))
noncomputable def dvInv (l : List Nat) (b : Int) (s : Int × Option PyData × Option PyData) : Loc := [("text", .val (.str (mk l))), ("base", .val (.int b)), ("value", .val (.int s.1)), ("c", olv s.2.1), ("n", olv s.2.2), ("digit", .glob)]
noncomputable def dvEnd (l : List Nat) (b : Int) (s : Int × Option PyData × Option PyData) (u : Nat) : Loc := [("text", .val (.str (mk l))), ("base", .val (.int b)), ("value", .val (.int s.1)), ("c", .val (.str (mk [u]))), ("n", .val (.int (digitF u))), ("digit", .glob)]
theorem dv_fold (l0 : List Nat) (b : Int) : ∀ (l : List Nat) (s : Int × Option PyData × Option PyData), (∀ s', foldR (fvF b) (dvEnd l0 b) l s = .ok s' → dvF b l s.1 = some s'.1) ∧ (∀ ρ, foldR (fvF b) (dvEnd l0 b) l s = .error ρ → dvF b l s.1 = none)
  | [], s => ⟨fun s' h => by cases h; rfl, fun ρ h => by cases h⟩
  | u :: r, s => by
    unfold foldR dvF fvF
    by_cases h : digitF u < 0 ∨ digitF u ≥ b
    · simp only [if_pos h]
      exact ⟨fun s' h => by simp at h, fun ρ _ => trivial⟩
    · simp only [if_neg h]
      exact dv_fold l0 b r _
local macro_rules | `(tactic| walk_at "m call") => `(tactic| with_reducible exact d_digit)
theorem d_digits_value {k : Nat} {p : Option Int} {l : List Nat} {b : Int} (hb : Builtin.Int.intBits b ≤ 64) : callP D0 (k + 2) "digits_value" [.val (.str (mk l)), .val (.int b)] p = .ok (optI (digitsF l b)) p := by
  refine call_run (rec := recL 7) (ρ := [("text", .val (.str (mk l))), ("base", .val (.int b)), ("value", .unb), ("c", .unb), ("n", .unb), ("digit", .glob)]) (by kernel_rfl) (by kernel_rfl) ?_
  unfold digitsF
  by_cases hl : l = []
  · rw [if_pos hl]
    have c0 : l.isEmpty = true := by rw [hl]; rfl
    walk_at "m run"
  rw [if_neg hl]
  have c0 : l.isEmpty = false := by cases l <;> first | exact absurd rfl hl | rfl
  have turn1 : ∀ v : Int, binP .Mult (.int v) (.int b) = some (.int (v * b)) := fun v => o_mul_small hb
  cases hf : foldR (fvF b) (dvEnd l b) l (0, none, none) with
  | ok s =>
    rw [(dv_fold l b l (0, none, none)).1 s hf]
    walk_at "m r0"
    · walk_at "m s1"
      walk_at "m s1"
      walk_at "m f0"
      · refine' for_next (inv := dvInv l b) (s := (0, none, none)) (rv := .none) hf ?_ ?_
        · rintro ⟨v, c, m⟩ u s' h
          unfold fvF at h
          split at h
          · cases h
          rename_i h1
          cases h
          have om := turn1 v
          dsimp only [dvInv]
          apply Eq.trans
          walk_at "m turn"
          rfl
        · rintro ⟨v, c, m⟩ u h
          unfold fvF at h
          split at h
          rotate_left
          · cases h
          rename_i h1
          by_cases h2 : digitF u < 0
          · dsimp only [dvInv]
            apply Eq.trans
            walk_at "m turn"
            try rfl
          · have h3 : digitF u ≥ b := h1.resolve_left h2
            dsimp only [dvInv]
            apply Eq.trans
            walk_at "m turn"
            try rfl
      with_reducible apply ct_next
      walk_at "m sh"
      walk_at "m st"
    all_goals rfl
  | error ρ =>
    rw [(dv_fold l b l (0, none, none)).2 ρ hf]
    walk_at "m r0"
    · walk_at "m s1"
      walk_at "m s1"
      walk_at "m f0"
      · refine' for_ret (inv := dvInv l b) (s := (0, none, none)) (rv := .none) hf ?_ ?_
        · rintro ⟨v, c, m⟩ u s' h
          unfold fvF at h
          split at h
          · cases h
          rename_i h1
          cases h
          have om := turn1 v
          dsimp only [dvInv]
          apply Eq.trans
          walk_at "m turn"
          rfl
        · rintro ⟨v, c, m⟩ u h
          unfold fvF at h
          split at h
          rotate_left
          · cases h
          rename_i h1
          by_cases h2 : digitF u < 0
          · dsimp only [dvInv]
            apply Eq.trans
            walk_at "m turn"
            try rfl
          · have h3 : digitF u ≥ b := h1.resolve_left h2
            dsimp only [dvInv]
            apply Eq.trans
            walk_at "m turn"
            try rfl
      with_reducible exact ct_ret
    all_goals rfl

theorem d_moved {k : Nat} {p : Option Int} {c : Nat} {l : List Nat} {b : Int} (hs : l.length < 1000) : callP D0 (k + 3) "moved" [.val (.int b), .val (.str (mk (c :: l)))] p = .ok (optI (match digitsF l 10 with
    | none => none
    | some v => if c = 43 then some (b + v) else if c = 45 then some (b - v) else none)) p := by
  have hsz : (c :: l).length ≤ sizeLine := by have := sizeLine_big; simp only [List.length_cons]; omega
  have e1 : sliceP (.str (mk (c :: l))) (some 1) none none = some (.str (mk l)) := o_cutR (i := 1) (by omega) hsz
  have e2 : subP (.str (mk (c :: l))) (.int 0) = some (.str (mk [c])) := o_at (i := 0) (by omega) ⟨by simp only [List.length_cons]; omega, by simp only [List.length_cons]; omega⟩
  have e3 : decide (mk [c] = Str.ofString "+") = decide (c = 43) := by
    rw [show Str.ofString "+" = mk [43] from by decide +kernel]; exact decide_eq_decide.mpr (by rw [mk_inj]; simp)
  have e4 : decide (mk [c] = Str.ofString "-") = decide (c = 45) := by
    rw [show Str.ofString "-" = mk [45] from by decide +kernel]; exact decide_eq_decide.mpr (by rw [mk_inj]; simp)
  refine call_run (rec := recL 11) (ρ := [("base", .val (.int b)), ("text", .val (.str (mk (c :: l)))), ("far", .unb), ("digits_value", .glob)]) (by kernel_rfl) (by kernel_rfl) ?_
  cases hd : digitsF l 10 with
  | none =>
    have hc : callP D0 (k + 2) "digits_value" [.val (.str (mk l)), .val (.int 10)] p = .ok .none p := by rw [d_digits_value (by decide +kernel), hd]; rfl
    walk_at "m run"
  | some v =>
    have hc : callP D0 (k + 2) "digits_value" [.val (.str (mk l)), .val (.int 10)] p = .ok (.int v) p := by rw [d_digits_value (by decide +kernel), hd]; rfl
    by_cases h1 : c = 43
    · have c1 : decide (mk [c] = Str.ofString "+") = true := by rw [e3]; exact decide_eq_true h1
      simp only [if_pos h1]
      walk_at "m run"
    by_cases h2 : c = 45
    · have c1 : decide (mk [c] = Str.ofString "+") = false := by rw [e3]; exact decide_eq_false h1
      have c2 : decide (mk [c] = Str.ofString "-") = true := by rw [e4]; exact decide_eq_true h2
      simp only [if_neg h1, if_pos h2]
      walk_at "m run"
    · have c1 : decide (mk [c] = Str.ofString "+") = false := by rw [e3]; exact decide_eq_false h1
      have c2 : decide (mk [c] = Str.ofString "-") = false := by rw [e4]; exact decide_eq_false h2
      simp only [if_neg h1, if_neg h2]
      walk_at "m run"
end

section
theorem strOk1 {u : Nat} (h : u < 0x110000) : PyData.strOk (mk [u]) = true := by
  unfold PyData.strOk mk; simp; omega
theorem getD_ok {l : List Nat} (hv : ∀ u ∈ l, u < 0x110000) (i : Nat) : l.getD i 0 < 0x110000 := by
  by_cases h : i < l.length
  · have : l.getD i 0 = l[i] := by simp [h]
    rw [this]; exact hv _ (List.getElem_mem h)
  · have : l.getD i 0 = 0 := by simp [List.getD, List.getElem?_eq_none (Nat.le_of_not_lt h)]
    rw [this]; lia
noncomputable def blankN (u : Nat) : Bool := blankS (mk [u])
noncomputable def sgN (u : Nat) : Bool := [PyData.str "+", .str "-"].any fun y => PyData.eqv y (.str (mk [u]))
noncomputable def baseN (u : Nat) : Int := cond ([PyData.str "x", .str "X"].any fun y => PyData.eqv y (.str (mk [u]))) 16 (cond ([PyData.str "o", .str "O"].any fun y => PyData.eqv y (.str (mk [u]))) 8 (cond ([PyData.str "b", .str "B"].any fun y => PyData.eqv y (.str (mk [u]))) 2 (cond ([PyData.str "d", .str "D"].any fun y => PyData.eqv y (.str (mk [u]))) 10 0)))
theorem baseN_bits (u : Nat) : Builtin.Int.intBits (baseN u) ≤ 64 := by
  unfold baseN
  generalize ([PyData.str "x", .str "X"].any fun y => PyData.eqv y (.str (mk [u]))) = a
  generalize ([PyData.str "o", .str "O"].any fun y => PyData.eqv y (.str (mk [u]))) = b
  generalize ([PyData.str "b", .str "B"].any fun y => PyData.eqv y (.str (mk [u]))) = c
  generalize ([PyData.str "d", .str "D"].any fun y => PyData.eqv y (.str (mk [u]))) = d
  cases a <;> cases b <;> cases c <;> cases d <;> decide +kernel
noncomputable def wA (l : List Nat) : Nat := lead (fun i => decide (i < l.length) && blankN (l.getD i 0)) l.length 0
noncomputable def wN (l : List Nat) : Nat := lead (fun j => decide (wA l < l.length - j) && blankN (l.getD (l.length - j - 1) 0)) l.length 0
noncomputable def wZ (l : List Nat) : Nat := l.length - wN l
noncomputable def wSg (l : List Nat) : Bool := decide (wA l < wZ l) && sgN (l.getD (wA l) 0)
noncomputable def wM (l : List Nat) : Bool := wSg l && decide (l.getD (wA l) 0 = 45)
noncomputable def wF (l : List Nat) : Nat := cond (wSg l) (wA l + 1) (wA l)
noncomputable def wP (l : List Nat) : Bool := decide (wF l + 2 < wZ l) && decide (l.getD (wF l) 0 = 48)
noncomputable def wB (l : List Nat) : Int := cond (wP l) (baseN (l.getD (wF l + 1) 0)) 0
noncomputable def wV (l : List Nat) : Option Int := cond (decide (wB l > 0)) (digitsF ((l.take (wZ l)).drop (wF l + 2)) (wB l)) (digitsF ((l.take (wZ l)).drop (wF l)) 10)
noncomputable def wholeF (l : List Nat) : Option Int := (wV l).map fun v => cond (wM l) (-v) v
noncomputable def wL (l : List Nat) (f b m bs v : LV) : Loc := [("text", .val (.str (mk l))), ("first", f), ("behind", b), ("is_minus", m), ("base", bs), ("value", v), ("len", .glob), ("is_blank", .glob), ("base_of", .glob), ("digits_value", .glob)]

theorem lay_sg {u : Nat} (hu : u < 0x110000) : (PyData.canLayAll0 [PyData.str "+", .str "-"] && PyData.canLay0 (.str (mk [u])) && decide (min (PyData.depthAll [PyData.str "+", .str "-"]) (PyData.depth (.str (mk [u]))) ≤ 64)) = true := by
  have b : PyData.canLay0 (.str (mk [u])) = true := by rw [PyData.canLay0]; exact strOk1 hu
  rw [show PyData.canLayAll0 [PyData.str "+", .str "-"] = true by decide +kernel, b]; rfl
theorem d_whole_of {k : Nat} {p : Option Int} {l : List Nat} (hs : l.length < 1000) (hv : ∀ u ∈ l, u < 0x110000) : callP D0 (k + 3) "whole_of" [.val (.str (mk l))] p = .ok (optI (wholeF l)) p := by
  have hsz : l.length ≤ sizeLine := sz9 hs
  have hA0 : wA l ≤ l.length := Nat.zero_add l.length ▸ (lead_spec _ l.length 0).2.1
  have hN0 : wN l ≤ l.length := Nat.zero_add l.length ▸ (lead_spec _ l.length 0).2.1
  have bl : ∀ i, callP D0 (k + 2) "is_blank" [.val (.str (mk [l.getD i 0]))] p = .ok (.bool (blankN (l.getD i 0))) p := fun i => d_is_blank (strOk1 (getD_ok hv i))
  have atN : ∀ i : Nat, i < l.length → subP (.str (mk l)) (.int (i : Int)) = some (.str (mk [l.getD i 0])) := fun i h => o_at (i := (i : Int)) (Int.natCast_nonneg i) ⟨Int.ofNat_lt.mpr h, Nat.lt_of_lt_of_le hs (by decide)⟩
  refine call_run (rec := recL 9) (ρ := wL l .unb .unb .unb .unb .unb) (by kernel_rfl) (by kernel_rfl) ?_
  (conv => lhs; arg 1; arg 2; whnf)
  apply run_any (rr := .ok (.ret (optI (wholeF l)), wL l (.val (.int (wF l))) (.val (.int (wZ l))) (.val (.bool (wM l))) (.val (.int (wB l))) (.val (optI (wV l)))) p)
  · unfold wL
    apply xs_next (ρ1 := wL l (.val (.int (0 : Nat))) (.val (.int l.length)) .unb .unb .unb) (p1 := p)
    · apply Eq.trans
      walk_at "m x"
      rfl
    apply xs_next (ρ1 := wL l (.val (.int (wA l))) (.val (.int l.length)) .unb .unb .unb) (p1 := p)
    · with_reducible apply x_while
      refine while_lead (inv := fun i => wL l (.val (.int (i : Nat))) (.val (.int l.length)) .unb .unb .unb) (q := fun i => decide (i < l.length) && blankN (l.getD i 0)) (K := l.length) (s := 0) (fun i _ _ => ?_) (fun i _ _ => ?_) (by rw [Nat.zero_add, decide_eq_false (Nat.lt_irrefl _)]; rfl) hs
      · (show evP _ _ _ (_ :: _) _ _ = _)
        have hb := bl i
        by_cases h1 : i < l.length
        · have ha := atN i h1
          rw [decide_eq_true h1, Bool.true_and]
          walk_at "m t"
        · rw [decide_eq_false h1, Bool.false_and]
          walk_at "m t"
      · (show exsP _ _ (_ :: _) _ = _)
        apply Eq.trans
        walk_at "m st"
        rfl
    apply xs_next (ρ1 := wL l (.val (.int (wA l))) (.val (.int (wZ l))) .unb .unb .unb) (p1 := p)
    · with_reducible apply x_while
      rw [show (wZ l : Int) = (l.length : Int) - (wN l : Nat) from Int.ofNat_sub hN0]
      refine while_lead (inv := fun j => wL l (.val (.int (wA l))) (.val (.int ((l.length : Int) - (j : Nat)))) .unb .unb .unb) (q := fun j => decide (wA l < l.length - j) && blankN (l.getD (l.length - j - 1) 0)) (K := l.length) (s := 0) (fun j _ hj => ?_) (fun j _ _ => ?_) (by rw [Nat.zero_add, Nat.sub_self, decide_eq_false (Nat.not_lt_zero _)]; rfl) hs
      · (show evP _ _ _ (_ :: _) _ _ = _)
        have hb := bl (l.length - j - 1)
        by_cases h1 : wA l < l.length - j
        · have ha : subP (.str (mk l)) (.int ((l.length : Int) - (j : Nat) - 1)) = some (.str (mk [l.getD (l.length - j - 1) 0])) := by
            rw [show (l.length : Int) - (j : Nat) - 1 = ((l.length - j - 1 : Nat) : Int) by lia]
            exact atN _ (Nat.lt_of_lt_of_le (Nat.sub_lt (Nat.zero_lt_of_lt h1) Nat.one_pos) (Nat.sub_le _ _))
          have h2 : (wA l : Int) < (l.length : Int) - (j : Nat) := by lia
          rw [decide_eq_true h1, Bool.true_and]
          clear hj h1
          walk_at "m t"
        · have h2 : ¬ (wA l : Int) < (l.length : Int) - (j : Nat) := by lia
          rw [decide_eq_false h1, Bool.false_and]
          clear hj h1
          walk_at "m t"
      · (show exsP _ _ (_ :: _) _ = _)
        apply Eq.trans
        walk_at "m st"
        rw [show (l.length : Int) - (j : Nat) - 1 = (l.length : Int) - ((j + 1 : Nat) : Int) from Int.sub_sub ..]; rfl
    have hZ : wZ l ≤ l.length := Nat.sub_le _ _
    have eqs : ∀ u v x, Str.ofString x = mk [v] → decide (mk [u] = Str.ofString x) = decide (u = v) := by
      intro u v x e
      rw [e]; exact decide_eq_decide.mpr (by rw [mk_inj]; simp)
    apply xs_next (ρ1 := wL l (.val (.int (wA l))) (.val (.int (wZ l))) (.val (.bool false)) .unb .unb) (p1 := p)
    · unfold wL
      apply Eq.trans
      walk_at "m x"
      rfl
    apply xs_next (ρ1 := wL l (.val (.int (wF l))) (.val (.int (wZ l))) (.val (.bool (wM l))) .unb .unb) (p1 := p)
    · (show exP _ _ (_ :: _) _ _ = _)
      by_cases h1 : wA l < wZ l
      · have ha := atN (wA l) (by lia)
        have hlay := lay_sg (getD_ok hv (wA l))
        cases h2 : sgN (l.getD (wA l) 0)
        · have hsg : wSg l = false := by unfold wSg; rw [h2, Bool.and_false]
          have eF : wF l = wA l := by unfold wF; rw [hsg]; rfl
          have eM : wM l = false := by unfold wM; rw [hsg]; rfl
          unfold sgN at h2
          apply Eq.trans
          walk_at "m x"
          rw [eF, eM]; rfl
        · have hsg : wSg l = true := by unfold wSg; rw [h2, decide_eq_true h1]; rfl
          have eF : wF l = wA l + 1 := by unfold wF; rw [hsg]; rfl
          have eM : wM l = decide (mk [l.getD (wA l) 0] = Str.ofString "-") := by
            unfold wM; rw [hsg, eqs _ 45 "-" (by decide +kernel)]; rfl
          unfold sgN at h2
          apply Eq.trans
          walk_at "m x"
          rw [eF, eM]; rfl
      · have hsg : wSg l = false := by unfold wSg; rw [decide_eq_false h1]; rfl
        have eF : wF l = wA l := by unfold wF; rw [hsg]; rfl
        have eM : wM l = false := by unfold wM; rw [hsg]; rfl
        apply Eq.trans
        walk_at "m x"
        rw [eF, eM]; rfl
    have hF : wF l ≤ l.length := by
      unfold wF
      cases hsg : wSg l
      · exact hA0
      · unfold wSg at hsg
        simp only [Bool.and_eq_true, decide_eq_true_eq] at hsg
        simp only [cond_true]; lia
    apply xs_next (ρ1 := wL l (.val (.int (wF l))) (.val (.int (wZ l))) (.val (.bool (wM l))) (.val (.int 0)) .unb) (p1 := p)
    · unfold wL
      apply Eq.trans
      walk_at "m x"
      rfl
    apply xs_next (ρ1 := wL l (.val (.int (wF l))) (.val (.int (wZ l))) (.val (.bool (wM l))) (.val (.int (wB l))) .unb) (p1 := p)
    · (show exP _ _ (_ :: _) _ _ = _)
      by_cases h1 : wF l + 2 < wZ l
      · have ha := atN (wF l) (by lia)
        have ha2 : subP (.str (mk l)) (.int ((wF l : Int) + 1)) = some (.str (mk [l.getD (wF l + 1) 0])) := atN (wF l + 1) (by lia)
        have hc : callP D0 (k + 2) "base_of" [.val (.str (mk [l.getD (wF l + 1) 0]))] p = .ok (.int (baseN (l.getD (wF l + 1) 0))) p := d_base_of (strOk1 (getD_ok hv _))
        by_cases h2 : l.getD (wF l) 0 = 48
        · have hP : wP l = true := by unfold wP; rw [decide_eq_true h1, decide_eq_true h2]; rfl
          have eB : wB l = baseN (l.getD (wF l + 1) 0) := by unfold wB; rw [hP]; rfl
          have c2 : decide (mk [l.getD (wF l) 0] = Str.ofString "0") = true := by rw [eqs _ 48 "0" (by decide +kernel)]; exact decide_eq_true h2
          apply Eq.trans
          walk_at "m x"
          rw [eB]; rfl
        · have hP : wP l = false := by unfold wP; rw [decide_eq_false h2, Bool.and_false]
          have eB : wB l = 0 := by unfold wB; rw [hP]; rfl
          have c2 : decide (mk [l.getD (wF l) 0] = Str.ofString "0") = false := by rw [eqs _ 48 "0" (by decide +kernel)]; exact decide_eq_false h2
          apply Eq.trans
          walk_at "m x"
          rw [eB]; rfl
      · have hP : wP l = false := by unfold wP; rw [decide_eq_false h1]; rfl
        have eB : wB l = 0 := by unfold wB; rw [hP]; rfl
        apply Eq.trans
        walk_at "m x"
        rw [eB]; rfl
    have hBb : Builtin.Int.intBits (wB l) ≤ 64 := by
      unfold wB
      cases wP l
      · show Builtin.Int.intBits 0 ≤ 64
        decide +kernel
      · exact baseN_bits _
    have fl : ∀ o : Option Int, flat (optI o) = true := by intro o; cases o <;> rfl
    apply xs_next (ρ1 := wL l (.val (.int (wF l))) (.val (.int (wZ l))) (.val (.bool (wM l))) (.val (.int (wB l))) (.val (optI (wV l)))) (p1 := p)
    · (show exP _ _ (_ :: _) _ _ = _)
      by_cases h1 : wB l > 0
      · have eV : wV l = digitsF ((l.take (wZ l)).drop (wF l + 2)) (wB l) := by unfold wV; rw [decide_eq_true h1]; rfl
        have hs1 : sliceP (.str (mk l)) (some ((wF l : Int) + 2)) (some (wZ l : Int)) none = some (.str (mk ((l.take (wZ l)).drop (wF l + 2)))) := o_cut (i := (wF l : Int) + 2) (j := (wZ l : Int)) (by lia) (by lia) hsz
        cases hV : wV l with
        | none =>
          have hc : callP D0 (k + 2) "digits_value" [.val (.str (mk ((l.take (wZ l)).drop (wF l + 2)))), .val (.int (wB l))] p = .ok .none p := by rw [d_digits_value hBb, ← eV, hV]; rfl
          apply Eq.trans
          walk_at "m x"
          rfl
        | some v =>
          have hc : callP D0 (k + 2) "digits_value" [.val (.str (mk ((l.take (wZ l)).drop (wF l + 2)))), .val (.int (wB l))] p = .ok (.int v) p := by rw [d_digits_value hBb, ← eV, hV]; rfl
          apply Eq.trans
          walk_at "m x"
          rfl
      · have eV : wV l = digitsF ((l.take (wZ l)).drop (wF l)) 10 := by unfold wV; rw [decide_eq_false h1]; rfl
        have hs1 : sliceP (.str (mk l)) (some (wF l : Int)) (some (wZ l : Int)) none = some (.str (mk ((l.take (wZ l)).drop (wF l)))) := o_cut (i := (wF l : Int)) (j := (wZ l : Int)) (by lia) (by lia) hsz
        cases hV : wV l with
        | none =>
          have hc : callP D0 (k + 2) "digits_value" [.val (.str (mk ((l.take (wZ l)).drop (wF l)))), .val (.int 10)] p = .ok .none p := by rw [d_digits_value (by decide +kernel), ← eV, hV]; rfl
          apply Eq.trans
          walk_at "m x"
          rfl
        | some v =>
          have hc : callP D0 (k + 2) "digits_value" [.val (.str (mk ((l.take (wZ l)).drop (wF l)))), .val (.int 10)] p = .ok (.int v) p := by rw [d_digits_value (by decide +kernel), ← eV, hV]; rfl
          apply Eq.trans
          walk_at "m x"
          rfl
    unfold wL wholeF
    cases hV : wV l with
    | none =>
      (show exsP _ _ [(_, _), (_, _), (_, _), (_, _), (_, _), (_, LV.val PyData.none), (_, _), (_, _), (_, _), (_, _)] _ = _)
      apply Eq.trans
      walk_at "m st"
      rfl
    | some v =>
      (show exsP _ _ [(_, _), (_, _), (_, _), (_, _), (_, _), (_, LV.val (PyData.int v)), (_, _), (_, _), (_, _), (_, _)] _ = _)
      cases hM : wM l
      · apply Eq.trans
        walk_at "m st"
        rfl
      · apply Eq.trans
        walk_at "m st"
        rfl
  rfl
end

section
noncomputable def wholeMsg (x : Str) : Str := ("expected integer but got \"" : Str) ++ x ++ ("\"" : Str)
noncomputable def codeN : PyData := .tuple [.str "TCL", .str "VALUE", .str "NUMBER"]
noncomputable def needF (l : List Nat) (p : Option Int) : Res PyData := match wholeF l with
  | some v => .ok (.int v) p
  | none => .err ⟨wholeMsg (mk l), codeN⟩ p
theorem d_need_whole {k : Nat} {p : Option Int} {l : List Nat} (hs : l.length < 1000) (hv : ∀ u ∈ l, u < 0x110000) : callP D0 (k + 4) "need_whole" [.val (.str (mk l))] p = needF l p := by
  have h1 : (Str.ofString "expected integer but got \"").length = 26 := by decide +kernel
  have h2 : (Str.ofString "\"").length = 1 := by decide +kernel
  refine call_run (rec := recL 10) (ρ := [("text", .val (.str (mk l))), ("value", .unb), ("whole_of", .glob), ("error", .glob)]) (by kernel_rfl) (by kernel_rfl) ?_
  unfold needF
  cases hw : wholeF l with
  | some v =>
    have hc : callP D0 (k + 3) "whole_of" [.val (.str (mk l))] p = .ok (.int v) p := by rw [d_whole_of hs hv, hw]; rfl
    walk_at "m run"
  | none =>
    have hc : callP D0 (k + 3) "whole_of" [.val (.str (mk l))] p = .ok .none p := by rw [d_whole_of hs hv, hw]; rfl
    walk_at "m run"

theorem d_moved_nil {k : Nat} {p : Option Int} {b : Int} : callP D0 (k + 3) "moved" [.val (.int b), .val (.str (mk []))] p = .ok .none p := by
  have e1 : sliceP (.str (mk [])) (some 1) none none = some (.str (mk [])) := o_cutR (l := []) (i := 1) (by omega) (by decide +kernel)
  have hc : callP D0 (k + 2) "digits_value" [.val (.str (mk [])), .val (.int 10)] p = .ok .none p := d_digits_value (l := []) (by decide +kernel)
  refine call_run (rec := recL 11) (ρ := [("base", .val (.int b)), ("text", .val (.str (mk []))), ("far", .unb), ("digits_value", .glob)]) (by kernel_rfl) (by kernel_rfl) ?_
  walk_at "m run"
noncomputable def movedF (b : Int) : List Nat → Option Int
  | [] => none
  | c :: r => match digitsF r 10 with
    | none => none
    | some v => if c = 43 then some (b + v) else if c = 45 then some (b - v) else none
theorem d_moved' {k : Nat} {p : Option Int} {l : List Nat} {b : Int} (hs : l.length < 1000) : callP D0 (k + 3) "moved" [.val (.int b), .val (.str (mk l))] p = .ok (optI (movedF b l)) p := by
  cases l with
  | nil => exact d_moved_nil
  | cons c r => exact d_moved (by simp only [List.length_cons] at hs; omega)

noncomputable def iAt (l : List Nat) : Nat := lead (fun i => decide (i < l.length) && (!sgN (l.getD i 0) || blankN (l.getD (i - 1) 0))) l.length 1
/-- what the index word is worth when it is no whole number -/
noncomputable def iX (l : List Nat) (last : Int) : Option Int := cond (Txt.startswith (mk l) "end") (cond (decide (mk l = ("end" : Str))) (some last) (movedF last (l.drop 3))) (match wholeF (l.take (iAt l)) with
    | some b => movedF b (l.drop (iAt l))
    | none => none)
noncomputable def indexF (l : List Nat) (last : Int) : Option Int := match wholeF l with
  | some v => some v
  | none => iX l last
noncomputable def indexMsg (x : Str) : Str := ("bad index \"" : Str) ++ x ++ ("\": must be integer?[+-]integer? or end?[+-]integer?" : Str)
noncomputable def codeI : PyData := .tuple [.str "TCL", .str "VALUE", .str "INDEX"]
noncomputable def indexR (l : List Nat) (last : Int) (p : Option Int) : Res PyData := match indexF l last with
  | some v => .ok (.int v) p
  | none => .err ⟨indexMsg (mk l), codeI⟩ p
noncomputable def iL (l : List Nat) (last : Int) (f a b : LV) : Loc := [("text", .val (.str (mk l))), ("last", .val (.int last)), ("found", f), ("at", a), ("base", b), ("whole_of", .glob), ("moved", .glob), ("len", .glob), ("is_blank", .glob), ("error", .glob)]
theorem d_index_of {k : Nat} {p : Option Int} {l : List Nat} {last : Int} (hs : l.length < 1000) (hv : ∀ u ∈ l, u < 0x110000) : callP D0 (k + 4) "index_of" [.val (.str (mk l)), .val (.int last)] p = indexR l last p := by
  have hsz : l.length ≤ sizeLine := sz9 hs
  refine call_run (rec := recL 12) (ρ := iL l last .unb .unb .unb) (by kernel_rfl) (by kernel_rfl) ?_
  unfold indexR indexF
  have hw := d_whole_of (k := k) (p := p) hs hv
  generalize wholeF l = W at hw
  cases W with
  | some v =>
    have hc : callP D0 (k + 3) "whole_of" [.val (.str (mk l))] p = .ok (.int v) p := hw
    unfold iL
    walk_at "m run"
  | none =>
    have hc : callP D0 (k + 3) "whole_of" [.val (.str (mk l))] p = .ok .none p := hw
    obtain ⟨X, hX⟩ : ∃ X, iX l last = X := ⟨_, rfl⟩
    show _ = match iX l last with | some v => _ | none => _
    rw [hX]
    (conv => lhs; arg 1; arg 2; whnf)
    apply run_any (rr := match (generalizing := false) X with
      | some v => .ok (.ret (.int v), iL l last (.val (optI X)) (cond (Txt.startswith (mk l) "end") .unb (.val (.int (iAt l)))) (cond (Txt.startswith (mk l) "end") .unb (.val (optI (wholeF (l.take (iAt l))))))) p
      | none => .err ⟨indexMsg (mk l), codeI⟩ p)
    · unfold iL
      walk_at "m s1"
      walk_at "m s1"
      apply xs_next (ρ1 := iL l last (.val (optI X)) (cond (Txt.startswith (mk l) "end") .unb (.val (.int (iAt l)))) (cond (Txt.startswith (mk l) "end") .unb (.val (optI (wholeF (l.take (iAt l))))))) (p1 := p)
      · with_reducible apply x_if
        walk_at "m t"
        unfold iX at hX
        cases hS : Txt.startswith (mk l) "end" with
        | true =>
          rw [hS] at hX
          simp only [cond_true] at hX ⊢
          have hs3 : sliceP (.str (mk l)) (some 3) none none = some (.str (mk (l.drop 3))) := o_cutR (i := 3) (by decide) hsz
          cases hE : decide (mk l = ("end" : Str)) with
          | true =>
            rw [hE] at hX
            obtain rfl : some last = X := hX
            show exsP _ _ _ _ = .ok (.next, iL l last (.val (.int last)) _ _) p
            unfold iL
            walk_at "m st"
          | false =>
            rw [hE] at hX
            have hc2 := d_moved' (k := k) (p := p) (b := last) (l := l.drop 3) (Nat.lt_of_le_of_lt (List.drop_sublist _ _).length_le hs)
            have hX : movedF last (l.drop 3) = X := hX
            rw [hX] at hc2
            cases X <;> unfold optI at hc2 ⊢ <;> unfold iL <;> walk_at "m st"
        | false =>
          rw [hS] at hX
          simp only [cond_false] at hX ⊢
          have hA : 1 ≤ iAt l := (lead_spec _ l.length 1).1
          have hc1 : sliceP (.str (mk l)) none (some (iAt l : Int)) none = some (.str (mk (l.take (iAt l)))) := o_cutL (j := (iAt l : Int)) (Int.natCast_nonneg _) hsz
          have hc3 : sliceP (.str (mk l)) (some (iAt l : Int)) none none = some (.str (mk (l.drop (iAt l)))) := o_cutR (i := (iAt l : Int)) (Int.natCast_nonneg _) hsz
          unfold iL
          walk_at "m s1"
          apply xs_next (ρ1 := iL l last (.val .none) (.val (.int (iAt l))) .unb) (p1 := p)
          · with_reducible apply x_while
            refine while_lead (inv := fun i => iL l last (.val .none) (.val (.int (i : Nat))) .unb) (q := fun i => decide (i < l.length) && (!sgN (l.getD i 0) || blankN (l.getD (i - 1) 0))) (K := l.length) (s := 1) (fun i h0 _ => ?_) (fun i _ _ => ?_) (by rw [decide_eq_false (Nat.not_lt.mpr (Nat.le_add_left _ _))]; rfl) hs
            · (show evP _ _ _ (_ :: _) _ _ = _)
              by_cases h1 : i < l.length
              · have ha : subP (.str (mk l)) (.int (i : Int)) = some (.str (mk [l.getD i 0])) := o_at (i := (i : Int)) (Int.natCast_nonneg i) ⟨Int.ofNat_lt.mpr h1, Nat.lt_of_lt_of_le hs (by decide)⟩
                have ha2 : subP (.str (mk l)) (.int ((i : Int) - 1)) = some (.str (mk [l.getD (i - 1) 0])) :=
                  (Int.ofNat_sub h0 : ((i - 1 : Nat) : Int) = (i : Int) - 1) ▸ o_at (i := ((i - 1 : Nat) : Int)) (Int.natCast_nonneg _) ⟨Int.ofNat_lt.mpr (Nat.lt_of_le_of_lt (Nat.sub_le _ _) h1), Nat.lt_of_lt_of_le hs (by decide)⟩
                have hlay := lay_sg (getD_ok hv i)
                have hb : callP D0 (k + 3) "is_blank" [.val (.str (mk [l.getD (i - 1) 0]))] p = .ok (.bool (blankN (l.getD (i - 1) 0))) p := d_is_blank (strOk1 (getD_ok hv (i - 1)))
                rw [decide_eq_true h1, Bool.true_and]
                cases hsg : sgN (l.getD i 0) with
                | false =>
                  have c1 : (!([PyData.str "+", .str "-"].any fun y => PyData.eqv y (.str (mk [l.getD i 0])))) = true := by unfold sgN at hsg; rw [hsg]; rfl
                  show _ = Res.ok (PyData.bool true) p
                  walk_at "m t"
                | true =>
                  have c1 : (!([PyData.str "+", .str "-"].any fun y => PyData.eqv y (.str (mk [l.getD i 0])))) = false := by unfold sgN at hsg; rw [hsg]; rfl
                  show _ = Res.ok (PyData.bool (blankN (l.getD (i - 1) 0))) p
                  walk_at "m t"
              · rw [decide_eq_false h1, Bool.false_and]
                walk_at "m t"
            · (show exsP _ _ (_ :: _) _ = _)
              apply Eq.trans
              walk_at "m st"
              rfl
          have hw := d_whole_of (k := k) (p := p) (l := l.take (iAt l)) (Nat.lt_of_le_of_lt (List.take_sublist _ _).length_le hs) fun u hu => hv u (List.mem_of_mem_take hu)
          generalize wholeF (l.take (iAt l)) = W at hw hX
          cases W with
          | none =>
            have hb1 : callP D0 (k + 3) "whole_of" [.val (.str (mk (l.take (iAt l))))] p = .ok .none p := hw
            obtain rfl : none = X := hX
            show exsP _ _ _ _ = .ok (.next, iL l last (.val .none) _ (.val .none)) p
            unfold iL
            walk_at "m st"
          | some b =>
            have hb1 : callP D0 (k + 3) "whole_of" [.val (.str (mk (l.take (iAt l))))] p = .ok (.int b) p := hw
            have hb2 := d_moved' (k := k) (p := p) (b := b) (l := l.drop (iAt l)) (Nat.lt_of_le_of_lt (List.drop_sublist _ _).length_le hs)
            have hX : movedF b (l.drop (iAt l)) = X := hX
            rw [hX] at hb2
            cases X <;> unfold optI at hb2 ⊢ <;> unfold iL <;> walk_at "m st"
      · have h1 : (Str.ofString "bad index \"").length = 11 := by decide +kernel
        have h2 : (Str.ofString "\": must be integer?[+-]integer? or end?[+-]integer?").length = 51 := by decide +kernel
        cases X with
        | none =>
          show exsP _ _ (iL l last (.val .none) _ _) _ = Res.err ⟨indexMsg (mk l), codeI⟩ p
          unfold iL
          apply Eq.trans
          walk_at "m st"
          rfl
        | some v =>
          show exsP _ _ (iL l last (.val (.int v)) _ _) _ = Res.ok (.ret (.int v), iL l last (.val (.int v)) _ _) p
          unfold iL
          walk_at "m st"
    · cases X <;> rfl
end

section
theorem o_band {a b : Int} : binP .BitAnd (.int a) (.int b) = some (.int (Builtin.bitAnd a b)) := rfl
noncomputable def wideF (n : Int) : Int := let low := Builtin.bitAnd n 18446744073709551615; if low.fdiv 9223372036854775808 = 1 then low - 18446744073709551616 else low
theorem d_wide {k : Nat} {p : Option Int} {n : Int} : callP D0 (k + 1) "wide" [.val (.int n)] p = .ok (.int (wideF n)) p := by
  have e1 : binP .LShift (.int 1) (.int 64) = some (.int 18446744073709551616) := by kernel_rfl
  have e2 : binP .Sub (.int 18446744073709551616) (.int 1) = some (.int 18446744073709551615) := by kernel_rfl
  have e3 : binP .BitAnd (.int n) (.int 18446744073709551615) = some (.int (Builtin.bitAnd n 18446744073709551615)) := rfl
  have e4 : binP .RShift (.int (Builtin.bitAnd n 18446744073709551615)) (.int 63) = some (.int ((Builtin.bitAnd n 18446744073709551615).fdiv 9223372036854775808)) := by kernel_rfl
  refine call_run (rec := recL 13) (ρ := [("n", .val (.int n)), ("low", .unb)]) (by kernel_rfl) (by kernel_rfl) ?_
  unfold wideF
  by_cases h : (Builtin.bitAnd n 18446744073709551615).fdiv 9223372036854775808 = 1
  · simp only [if_pos h]; walk_at "m run"
  · simp only [if_neg h]; walk_at "m run"
noncomputable def codeW (why : Str) : PyData := .tuple [.str "ARITH", .str "IOVERFLOW", .str why]
noncomputable def whyW : Str := "integer value too large to represent"
noncomputable def needWideF (l : List Nat) (p : Option Int) : Res PyData := match wholeF l with
  | some v => if wideF v = v then .ok (.int v) p else .err ⟨whyW, codeW whyW⟩ p
  | none => .err ⟨wholeMsg (mk l), codeN⟩ p
theorem d_need_wide {k : Nat} {p : Option Int} {l : List Nat} (hs : l.length < 1000) (hv : ∀ u ∈ l, u < 0x110000) : callP D0 (k + 5) "need_wide" [.val (.str (mk l))] p = needWideF l p := by
  refine call_run (rec := recL 22) (ρ := [("text", .val (.str (mk l))), ("n", .unb), ("why", .unb), ("need_whole", .glob), ("wide", .glob), ("error", .glob)]) (by kernel_rfl) (by kernel_rfl) ?_
  have hc := d_need_whole (k := k) (p := p) hs hv
  unfold needF at hc
  unfold needWideF
  cases hw : wholeF l with
  | none =>
    rw [hw] at hc
    walk_at "m run"
  | some v =>
    rw [hw] at hc
    simp only at hc ⊢
    have hc2 : callP D0 (k + 4) "wide" [.val (.int v)] p = .ok (.int (wideF v)) p := d_wide
    by_cases h : wideF v = v
    · simp only [if_pos h]; walk_at "m run"
    · simp only [if_neg h]; walk_at "m run"

/-! trimming -/
noncomputable def inS (s : Str) (u : Nat) : Bool := Txt.contains s (mk [u])
noncomputable def tlA (s : Str) (l : List Nat) : Nat := lead (fun i => decide (i < l.length) && inS s (l.getD i 0)) l.length 0
noncomputable def trN (s : Str) (l : List Nat) : Nat := lead (fun j => decide (0 < l.length - j) && inS s (l.getD (l.length - j - 1) 0)) l.length 0
theorem get_at {l : List Nat} {i : Nat} (hs : l.length < 1000) (h : i < l.length) : subP (.str (mk l)) (.int (i : Int)) = some (.str (mk [l.getD i 0])) := o_at (i := (i : Int)) (Int.natCast_nonneg i) ⟨Int.ofNat_lt.mpr h, Nat.lt_of_lt_of_le hs (by decide)⟩
theorem get_back {l : List Nat} {j : Nat} (hs : l.length < 1000) (h : 0 < l.length - j) : subP (.str (mk l)) (.int ((l.length : Int) - (j : Nat) - 1)) = some (.str (mk [l.getD (l.length - j - 1) 0])) := by
  rw [show (l.length : Int) - (j : Nat) - 1 = ((l.length - j - 1 : Nat) : Int) by omega]
  exact get_at hs (Nat.lt_of_lt_of_le (Nat.sub_lt h Nat.one_pos) (Nat.sub_le _ _))
noncomputable def tL (l : List Nat) (s : Str) (a : LV) (x : Str) : Loc := [("text", .val (.str (mk l))), ("signs", .val (.str s)), (x, a), ("len", .glob)]
theorem d_trim_left {k : Nat} {p : Option Int} {s : Str} {l : List Nat} (hs : l.length < 900) : callP D0 (k + 1) "trim_left" [.val (.str (mk l)), .val (.str s)] p = .ok (.str (mk (l.drop (tlA s l)))) p := by
  have hs := Nat.lt_of_lt_of_le hs (show 900 ≤ 1000 by decide)
  have hsz : l.length ≤ sizeLine := sz9 hs
  have hc3 : sliceP (.str (mk l)) (some (tlA s l : Int)) none none = some (.str (mk (l.drop (tlA s l)))) := o_cutR (i := (tlA s l : Int)) (Int.natCast_nonneg _) hsz
  refine call_run (rec := recL 16) (ρ := tL l s .unb "at") (by kernel_rfl) (by kernel_rfl) ?_
  unfold tL
  walk_at "m r0"
  · walk_at "m s1"
    apply xs_next (ρ1 := tL l s (.val (.int (tlA s l))) "at") (p1 := p)
    · with_reducible apply x_while
      refine while_lead (inv := fun i => tL l s (.val (.int (i : Nat))) "at") (q := fun i => decide (i < l.length) && inS s (l.getD i 0)) (K := l.length) (s := 0) (fun i _ _ => ?_) (fun i _ _ => ?_) (by rw [Nat.zero_add, decide_eq_false (Nat.lt_irrefl _)]; rfl) hs
      · unfold tL
        by_cases h1 : i < l.length
        · have ha := get_at hs h1
          rw [decide_eq_true h1, Bool.true_and]
          show _ = Res.ok (PyData.bool (Txt.contains s (mk [l.getD i 0]))) p
          walk_at "m t"
        · rw [decide_eq_false h1, Bool.false_and]
          walk_at "m t"
      · unfold tL
        apply Eq.trans
        walk_at "m st"
        rfl
    unfold tL
    walk_at "m st"
  all_goals rfl
theorem d_trim_right {k : Nat} {p : Option Int} {s : Str} {l : List Nat} (hs : l.length < 900) : callP D0 (k + 1) "trim_right" [.val (.str (mk l)), .val (.str s)] p = .ok (.str (mk (l.take (l.length - trN s l)))) p := by
  have hs := Nat.lt_of_lt_of_le hs (show 900 ≤ 1000 by decide)
  have hsz : l.length ≤ sizeLine := sz9 hs
  have hA0 : trN s l ≤ l.length := Nat.zero_add l.length ▸ (lead_spec _ l.length 0).2.1
  have hc3 : sliceP (.str (mk l)) none (some ((l.length : Int) - (trN s l : Nat))) none = some (.str (mk (l.take (l.length - trN s l)))) := by
    rw [show (l.length : Int) - (trN s l : Nat) = ((l.length - trN s l : Nat) : Int) from (Int.ofNat_sub hA0).symm]
    exact o_cutL (j := ((l.length - trN s l : Nat) : Int)) (Int.natCast_nonneg _) hsz
  refine call_run (rec := recL 17) (ρ := tL l s .unb "behind") (by kernel_rfl) (by kernel_rfl) ?_
  unfold tL
  walk_at "m r0"
  · apply xs_next (ρ1 := tL l s (.val (.int ((l.length : Int) - ((0 : Nat) : Int)))) "behind") (p1 := p)
    · rw [show (l.length : Int) - ((0 : Nat) : Int) = l.length from Int.sub_zero _]
      unfold tL
      walk_at "m x"
    apply xs_next (ρ1 := tL l s (.val (.int ((l.length : Int) - (trN s l : Nat)))) "behind") (p1 := p)
    · with_reducible apply x_while
      refine while_lead (inv := fun j => tL l s (.val (.int ((l.length : Int) - (j : Nat)))) "behind") (q := fun j => decide (0 < l.length - j) && inS s (l.getD (l.length - j - 1) 0)) (K := l.length) (s := 0) (fun j _ hj => ?_) (fun j _ _ => ?_) (by rw [Nat.zero_add, Nat.sub_self]; rfl) hs
      · unfold tL
        by_cases h1 : 0 < l.length - j
        · have ha := get_back hs h1
          have h2 : (l.length : Int) - (j : Nat) > 0 := by omega
          rw [decide_eq_true h1, Bool.true_and]
          clear hj h1
          show _ = Res.ok (PyData.bool (Txt.contains s (mk [l.getD (l.length - j - 1) 0]))) p
          walk_at "m t"
        · have h2 : ¬ (l.length : Int) - (j : Nat) > 0 := by omega
          rw [decide_eq_false h1, Bool.false_and]
          clear hj h1
          walk_at "m t"
      · unfold tL
        apply Eq.trans
        walk_at "m st"
        rw [show (l.length : Int) - (j : Nat) - 1 = (l.length : Int) - ((j + 1 : Nat) : Int) from Int.sub_sub ..]
    unfold tL
    walk_at "m st"
  all_goals rfl
/-! replace -/
noncomputable def rpF (t : List Nat) (first last : Int) (b : List Nat) : List Nat := if first < t.length ∧ last ≥ max first 0 then t.take (max first 0).toNat ++ b ++ t.drop (min (last + 1) t.length).toNat else t
theorem cut_le {l : List Nat} {n m : Nat} (h : l.length ≤ m) : (l.take n).length ≤ m ∧ (l.drop n).length ≤ m := ⟨Nat.le_trans (List.take_sublist _ _).length_le h, Nat.le_trans (List.drop_sublist _ _).length_le h⟩
theorem app_le {a b : List Nat} {m n : Nat} (h1 : a.length ≤ m) (h2 : b.length ≤ n) : (a ++ b).length ≤ m + n := by rw [List.length_append]; exact Nat.add_le_add h1 h2
theorem sz_m {n m : Nat} (h : n ≤ m) (hm : m ≤ 1000000) : n ≤ sizeLine := Nat.le_trans h (Nat.le_trans hm sizeLine_big)
noncomputable def rL (l b : List Nat) (f t : Int) (e : LV) : Loc := [("text", .val (.str (mk l))), ("first", .val (.int f)), ("last", .val (.int t)), ("by", .val (.str (mk b))), ("end", e), ("len", .glob)]
theorem d_replace {k : Nat} {p : Option Int} {l b : List Nat} {first last : Int} (hs : l.length < 900) (hb : b.length < 900) : callP D0 (k + 1) "replace" [.val (.str (mk l)), .val (.int first), .val (.int last), .val (.str (mk b))] p = .ok (.str (mk (rpF l first last b))) p := by
  have hsz : l.length ≤ sizeLine := sz9 (Nat.lt_of_lt_of_le hs (by decide))
  refine call_run (rec := recL 20) (ρ := rL l b first last .unb) (by kernel_rfl) (by kernel_rfl) ?_
  unfold rpF rL
  by_cases h : first < l.length ∧ last ≥ max first 0
  · rw [if_pos h]
    have h0 := Int.max_le.mp h.2
    have n1 : ¬ last < 0 := Int.not_lt.mpr h0.2
    have n2 : ¬ first > (l.length : Int) - 1 := Int.not_lt.mpr (Int.le_sub_one_of_lt h.1)
    have n3 : ¬ last < first := Int.not_lt.mpr h0.1
    have g0 : 0 ≤ min (last + 1) (l.length : Int) := Int.le_min.mpr ⟨Int.le_trans h0.2 (Int.le_add_one (Int.le_refl _)), Int.natCast_nonneg _⟩
    obtain ⟨F, hF⟩ : ∃ F, max first 0 = F := ⟨_, rfl⟩
    obtain ⟨G, hG⟩ : ∃ G, min (last + 1) (l.length : Int) = G + 1 := ⟨min (last + 1) (l.length : Int) - 1, (Int.sub_add_cancel _ _).symm⟩
    have f0 : 0 ≤ F := hF ▸ Int.le_max_right first 0
    rw [hF, hG]
    rw [hG] at g0
    have s1 : sliceP (.str (mk l)) none (some F) none = some (.str (mk (l.take F.toNat))) := o_cutL f0 hsz
    have s2 : sliceP (.str (mk l)) (some (G + 1)) none none = some (.str (mk (l.drop (G + 1).toNat))) := o_cutR g0 hsz
    have z1 := app_le (cut_le (n := F.toNat) (Nat.le_of_lt hs)).1 (Nat.le_of_lt hb)
    have z2 := sz_m (app_le z1 (cut_le (n := (G + 1).toNat) (Nat.le_of_lt hs)).2) (by decide)
    have z1 := sz_m z1 (by decide)
    walk_at "m r0"
    · walk_at "m s1"
      walk_at "m s1"
      apply xs_next (ρ1 := rL l b F last (.val (.int ((l.length : Int) - 1)))) (p1 := p)
      · unfold rL
        by_cases c1 : first < 0
        · rw [← hF, Int.max_eq_right (Int.le_of_lt c1)]
          walk_at "m x"
        · rw [← hF, Int.max_eq_left (Int.not_lt.mp c1)]
          walk_at "m x"
      apply xs_next (ρ1 := rL l b F G (.val (.int ((l.length : Int) - 1)))) (p1 := p)
      · unfold rL
        by_cases c2 : last > (l.length : Int) - 1
        · rw [Int.min_eq_right (Int.le_add_one (Int.le_of_sub_one_lt c2))] at hG
          rw [show G = (l.length : Int) - 1 from (Int.sub_eq_iff_eq_add.mpr hG).symm]
          walk_at "m x"
        · rw [Int.min_eq_left (Int.add_le_of_le_sub_right (Int.not_lt.mp c2))] at hG
          rw [show G = last from ((Int.add_left_inj 1).mp hG).symm]
          walk_at "m x"
      unfold rL
      walk_at "m st"
    all_goals rfl
  · rw [if_neg h]
    walk_at "m r0"
    · walk_at "m s1"
      apply xs_ret (d := .str (mk l)) (ρ1 := rL l b first last (.val (.int ((l.length : Int) - 1)))) (p1 := p)
      apply x_if (c := true) (p1 := p)
      · by_cases h1 : last < 0
        · walk_at "m t"
        by_cases h2 : first > (l.length : Int) - 1
        · walk_at "m t"
        have h3 : last < first := Int.not_le.mp fun q => h ⟨Int.lt_of_le_sub_one (Int.not_lt.mp h2), Int.max_le.mpr ⟨q, Int.not_lt.mp h1⟩⟩
        walk_at "m t"
      · unfold rL
        show exsP _ _ _ _ = _
        walk_at "m st"
    all_goals rfl
end

section
/-! seeking -/
noncomputable def cutF (l a : List Nat) (s : Nat) : List Nat := (l.take (s + a.length)).drop s
noncomputable def faN (a l : List Nat) (s : Nat) : Nat := lead (fun i => decide (s + i + a.length ≤ l.length) && !decide (cutF l a (s + i) = a)) (l.length + 1) 0
noncomputable def faF (a l : List Nat) (start : Int) : Int := if a = [] then -1 else if start.toNat + faN a l start.toNat + a.length ≤ l.length then ((start.toNat + faN a l start.toNat : Nat) : Int) else -1
theorem seek_spec {q : Nat → Bool} {l a : List Nat} {f : Nat → Nat} {k N : Nat} (hN : lead (fun i => q i && !decide (cutF l a (f i) = a)) k 0 = N) :
    N ≤ k ∧ (∀ i, i < N → q i = true ∧ cutF l a (f i) ≠ a) ∧ (N < k → q N = true → cutF l a (f N) = a) := by
  have hA := lead_spec (fun i => q i && !decide (cutF l a (f i) = a)) k 0
  rw [hN, Nat.zero_add] at hA
  exact ⟨hA.2.1, fun i hi => have h := Bool.and_eq_true_iff.mp (hA.2.2.1 i (Nat.zero_le _) hi); ⟨h.1, of_decide_eq_false (Bool.not_eq_true' _ ▸ h.2)⟩, fun h hq => by
    have h := hA.2.2.2 h
    rw [hq, Bool.true_and, Bool.not_eq_false', decide_eq_true_eq] at h
    exact h⟩
/-- a loop that seeks: at its end it gives back, or falls out and goes on -/
theorem xs_scan {C : CallP} {n : Nat} {p : Option Int} {e : Expr} {s1 ss : List Stmt} {q : Pos} {inv : Nat → Loc} {N : Nat} {c : Bool} {d : PyData} {ρ : Loc} {R : Res (Fl × Loc)} (hN : N < whileFuel)
    (hs : ∀ i, i < N → evP n C true (inv i) p e = .ok (.bool true) p ∧ exsP (exP C n) s1 (inv i) p = .ok (.next, inv (i + 1)) p) (ht : evP n C true (inv N) p e = .ok (.bool c) p)
    (h1 : c = true → exsP (exP C n) s1 (inv N) p = .ok (.ret d, ρ) p ∧ .ok (.ret d, ρ) p = R) (h0 : c = false → exsP (exP C (n + 1)) ss (inv N) p = R) : exsP (exP C (n + 1)) (.While e s1 [] q :: ss) (inv 0) p = R := by
  cases c with
  | true => exact (h1 rfl).2 ▸ xs_ret (x_while (while_ret (t := fun ρ p => evP n C true ρ p e) hs ht (h1 rfl).1 whileFuel 0 (Nat.zero_le _) hN))
  | false => exact xs_next (x_while (while_count (t := fun ρ p => evP n C true ρ p e) hs ht whileFuel 0 (Nat.zero_le _) hN)) (h0 rfl)
theorem nil_or (a : List Nat) : a = [] ∧ a.isEmpty = true ∨ a ≠ [] ∧ a.isEmpty = false ∧ 0 < a.length := by
  cases a with
  | nil => exact .inl ⟨rfl, rfl⟩
  | cons _ _ => exact .inr ⟨nofun, rfl, Nat.succ_pos _⟩
noncomputable def faL (a l : List Nat) (s : Int) : Loc := [("needle", .val (.str (mk a))), ("text", .val (.str (mk l))), ("start", .val (.int s)), ("len", .glob)]
theorem cut_at {a l : List Nat} {i : Int} {s : Nat} (h : i = s) (hsz : l.length ≤ sizeLine) : sliceP (.str (mk l)) (some i) (some (i + a.length)) none = some (.str (mk (cutF l a s))) := by
  subst h
  exact o_cut (i := (s : Int)) (j := (s : Int) + a.length) (Int.natCast_nonneg s) (Int.add_nonneg (Int.natCast_nonneg s) (Int.natCast_nonneg _)) hsz
theorem d_first_at {k : Nat} {p : Option Int} {a l : List Nat} {start : Int} (hs : l.length < 900) (ha : a.length < 900) : callP D0 (k + 1) "first_at" [.val (.str (mk a)), .val (.str (mk l)), .val (.int start)] p = .ok (.int (faF a l start)) p := by
  have hsz : l.length ≤ sizeLine := Nat.le_trans (Nat.le_of_lt hs) (Nat.le_trans (by decide) sizeLine_big)
  have hsa : a.length ≤ sizeLine := Nat.le_trans (Nat.le_of_lt ha) (Nat.le_trans (by decide) sizeLine_big)
  have hA := seek_spec (q := fun i => decide (start.toNat + i + a.length ≤ l.length)) (f := fun i => start.toNat + i) (N := faN a l start.toNat) rfl
  refine call_run (rec := recL 18) (ρ := faL a l start) (by kernel_rfl) (by kernel_rfl) ?_
  unfold faF
  generalize faN a l start.toNat = N at hA
  obtain ⟨S, hS⟩ : ∃ S, start.toNat = S := ⟨_, rfl⟩
  rw [hS] at hA
  rw [hS]
  (conv => lhs; arg 1; arg 2; whnf)
  apply run_any (rr := .ok (.ret (.int (if a = [] then -1 else if S + N + a.length ≤ l.length then ((S + N : Nat) : Int) else -1)), faL a l (if a = [] then ((S + 0 : Nat) : Int) else ((S + N : Nat) : Int))) p)
  · apply xs_next (ρ1 := faL a l ((S + 0 : Nat) : Int)) (p1 := p)
    · unfold faL
      by_cases h0 : start < 0
      · rw [show ((S + 0 : Nat) : Int) = 0 by lia]
        walk_at "m x"
      · rw [show ((S + 0 : Nat) : Int) = start by lia]
        walk_at "m x"
    rcases nil_or a with ⟨he, c0⟩ | ⟨he, c0, ha1⟩
    · rw [if_pos he, if_pos he]
      unfold faL
      walk_at "m st"
    rw [if_neg he, if_neg he]
    unfold faL
    walk_at "m s1"
    refine xs_scan (inv := fun i => faL a l ((S + i : Nat) : Int)) (N := N) (c := decide (S + N + a.length ≤ l.length)) (d := .int ((S + N : Nat) : Int)) (ρ := faL a l ((S + N : Nat) : Int)) (Nat.lt_of_le_of_lt hA.1 (by unfold whileFuel; lia)) ?_ ?_ ?_ ?_
    · intro i hi
      have h1 := of_decide_eq_true (hA.2.1 i hi).1
      have h2 := (hA.2.1 i hi).2
      have ci := cut_at (a := a) (l := l) (i := ((S + i : Nat) : Int)) rfl hsz
      unfold faL
      constructor
      · apply Eq.trans
        walk_at "m t"
        rw [decide_eq_true (by lia)]
      · apply Eq.trans
        walk_at "m st"
        rfl
    · unfold faL
      apply Eq.trans
      walk_at "m t"
      exact congrArg (fun b => Res.ok (PyData.bool b) p) (decide_eq_decide.mpr (by lia))
    · intro hF
      have hF := of_decide_eq_true hF
      have hq := hA.2.2 (by lia) (decide_eq_true hF)
      have cN := cut_at (a := a) (l := l) (i := ((S + N : Nat) : Int)) rfl hsz
      rw [if_pos hF]
      unfold faL
      refine ⟨?_, rfl⟩
      walk_at "m st"
    · intro hF
      rw [if_neg (of_decide_eq_false hF)]
      unfold faL
      walk_at "m st"
  · rfl

noncomputable def laT (a l : List Nat) (last : Int) : Int := (if last ≥ l.length then (l.length : Int) - 1 else last) + 1 - a.length
noncomputable def laN (a l : List Nat) (T : Int) : Nat := lead (fun j => decide ((j : Int) ≤ T) && !decide (cutF l a (T.toNat - j) = a)) (l.length + 2) 0
noncomputable def laF (a l : List Nat) (last : Int) : Int := if a = [] then -1 else if (laN a l (laT a l last) : Int) ≤ laT a l last then laT a l last - laN a l (laT a l last) else -1
theorem laT_le {a l : List Nat} {last : Int} : laT a l last ≤ l.length := by unfold laT; split <;> lia
noncomputable def laL (a l : List Nat) (s : Int) (t : LV) : Loc := [("needle", .val (.str (mk a))), ("text", .val (.str (mk l))), ("last", .val (.int s)), ("at", t), ("len", .glob)]
theorem d_last_at {k : Nat} {p : Option Int} {a l : List Nat} {last : Int} (hs : l.length < 900) (ha : a.length < 900) : callP D0 (k + 1) "last_at" [.val (.str (mk a)), .val (.str (mk l)), .val (.int last)] p = .ok (.int (laF a l last)) p := by
  have hsz : l.length ≤ sizeLine := Nat.le_trans (Nat.le_of_lt hs) (Nat.le_trans (by decide) sizeLine_big)
  have hsa : a.length ≤ sizeLine := Nat.le_trans (Nat.le_of_lt ha) (Nat.le_trans (by decide) sizeLine_big)
  have hT := laT_le (a := a) (l := l) (last := last)
  have hA := seek_spec (q := fun j => decide ((j : Int) ≤ laT a l last)) (f := fun j => (laT a l last).toNat - j) (N := laN a l (laT a l last)) rfl
  refine call_run (rec := recL 19) (ρ := laL a l last .unb) (by kernel_rfl) (by kernel_rfl) ?_
  unfold laF
  generalize laN a l (laT a l last) = N at hA
  have eT : (if last ≥ l.length then (l.length : Int) - 1 else last) + 1 - a.length = laT a l last - ((0 : Nat) : Int) := (Int.sub_zero _).symm
  generalize laT a l last = T at hA hT eT
  generalize hL : (if last ≥ l.length then (l.length : Int) - 1 else last) = L at eT
  (conv => lhs; arg 1; arg 2; whnf)
  apply run_any (rr := .ok (.ret (.int (if a = [] then -1 else if (N : Int) ≤ T then T - N else -1)), laL a l L (if a = [] then .unb else .val (.int (T - N)))) p)
  · apply xs_next (ρ1 := laL a l L .unb) (p1 := p)
    · unfold laL
      by_cases h0 : last ≥ l.length
      · rw [if_pos h0] at hL
        rw [← hL]
        walk_at "m x"
      · rw [if_neg h0] at hL
        rw [← hL]
        walk_at "m x"
    rcases nil_or a with ⟨he, c0⟩ | ⟨he, c0, ha1⟩
    · rw [if_pos he, if_pos he]
      unfold laL
      walk_at "m st"
    rw [if_neg he, if_neg he]
    unfold laL
    walk_at "m s1"
    apply xs_next (ρ1 := laL a l L (.val (.int (T - ((0 : Nat) : Int))))) (p1 := p)
    · rw [← eT]
      unfold laL
      walk_at "m x"
    clear eT hL
    refine xs_scan (inv := fun i => laL a l L (.val (.int (T - (i : Nat))))) (N := N) (c := decide ((N : Int) ≤ T)) (d := .int (T - N)) (ρ := laL a l L (.val (.int (T - N)))) (Nat.lt_of_le_of_lt hA.1 (by unfold whileFuel; lia)) ?_ ?_ ?_ ?_
    · intro i hi
      have h1 := of_decide_eq_true (hA.2.1 i hi).1
      have h2 := (hA.2.1 i hi).2
      have ci := cut_at (a := a) (l := l) (i := T - (i : Nat)) (s := T.toNat - i) (by lia) hsz
      unfold laL
      constructor
      · apply Eq.trans
        walk_at "m t"
        rw [decide_eq_true (by lia)]
      · apply Eq.trans
        walk_at "m st"
        rw [show T - (i : Nat) - 1 = T - ((i + 1 : Nat) : Int) from Int.sub_sub ..]
    · unfold laL
      apply Eq.trans
      walk_at "m t"
      exact congrArg (fun b => Res.ok (PyData.bool b) p) (decide_eq_decide.mpr (by lia))
    · intro hF
      have hF := of_decide_eq_true hF
      have hq := hA.2.2 (by lia) (decide_eq_true hF)
      have cN := cut_at (a := a) (l := l) (i := T - (N : Nat)) (s := T.toNat - N) (by lia) hsz
      rw [if_pos hF]
      unfold laL
      refine ⟨?_, rfl⟩
      walk_at "m st"
    · intro hF
      rw [if_neg (of_decide_eq_false hF)]
      unfold laL
      walk_at "m st"
  · rfl
end

section
theorem log2_small {n : Nat} (h : n < 1000) : n.log2 < 64 := by
  by_cases h0 : n = 0
  · subst h0; decide
  · exact (Nat.log2_lt h0).mpr (Nat.lt_of_lt_of_le h (by decide))
noncomputable def strI (i : Int) : Str := Str.ofString (toString i)
theorem o_strL {i : Int} (h : i.natAbs.log2 < 1920) : builtinP ("str" : Str) [.int i] = some (.str (strI i)) :=
  (show builtinP ("str" : Str) [.int i] = strP (.int i) by kernel_rfl).trans (show only _ _ = _ from on (decide_eq_true h) rfl)
theorem o_str {i : Int} (h : -1 ≤ i ∧ i < 1000) : builtinP ("str" : Str) [.int i] = some (.str (strI i)) := o_strL (Nat.lt_trans (log2_small (by omega)) (by decide))
theorem bits_small {n : Nat} (h : n < 1000) : Builtin.Int.intBits (n : Int) ≤ 64 := by
  unfold Builtin.Int.intBits
  split
  · lia
  · have := log2_small h
    simp only [Int.natAbs_natCast]; lia
noncomputable def rangeDown (n : Nat) : List Nat := (List.range n).map fun (k : Nat) => (((n : Int) - 1) + (-1) * (k : Int)).toNat
theorem rev_pick (l : List Nat) : (rangeDown l.length).filterMap (l.toArray[·]?) = l.reverse := by
  unfold rangeDown
  have key : ∀ n, n ≤ l.length → ((List.range n).map fun (k : Nat) => (((n : Int) - 1) + (-1) * (k : Int)).toNat).filterMap (l.toArray[·]?) = (l.take n).reverse := by
    intro n
    induction n with
    | zero => intro _; simp
    | succ n ih =>
      intro h
      rw [List.range_succ_eq_map, List.map_cons, List.filterMap_cons, List.map_map]
      have e : ((fun (k : Nat) => ((((n + 1 : Nat) : Int) - 1) + (-1) * (k : Int)).toNat) ∘ Nat.succ) = fun (k : Nat) => (((n : Int) - 1) + (-1) * (k : Int)).toNat := by funext k; simp; lia
      rw [e, ih (by lia)]
      have e0 : ((((n + 1 : Nat) : Int) - 1) + (-1) * ((0 : Nat) : Int)).toNat = n := by lia
      rw [e0]
      have hn : n < l.length := by lia
      have e1 : l.toArray[n]? = some l[n] := by simp [hn]
      rw [e1]
      show l[n] :: _ = _
      rw [List.take_succ_eq_append_getElem hn, List.reverse_append]; rfl
  have := key l.length (Nat.le_refl _)
  rw [List.take_length] at this
  exact this
theorem o_rev {l : List Nat} (hl : l.length ≤ sizeLine) : sliceP (.str (mk l)) none none (some (-1)) = some (.str (mk l.reverse)) := by
  have hidx : strPick (mk l) none none (some (-1)) = rangeDown l.length := by
    unfold strPick
    rw [mk_length]
    show sliceRange ((l.length : Int) - 1) (-1) (-1) = _
    unfold sliceRange rangeDown
    rw [if_neg (show ¬ ((-1 : Int) > 0) by decide)]
    have : (if (l.length : Int) - 1 > -1 then ((l.length : Int) - 1 - (-1) - (-1) - 1) / (-(-1)) else 0).toNat = l.length := by
      by_cases h : (l.length : Int) - 1 > -1
      · rw [if_pos h, show (-(-1) : Int) = 1 from rfl, Int.ediv_one]; lia
      · rw [if_neg h]; lia
    simp only [this]
  refine on (by rw [mk_length, decide_eq_true hl]; rfl) ?_
  unfold strSlice
  rw [if_neg (by simp), hidx]
  show some (PyData.str ⟨((rangeDown l.length).filterMap (l.toArray[·]?)).toArray⟩) = _
  rw [rev_pick]; rfl

noncomputable def IxOk (x : Str) (g : Int → Int) : Prop := ∀ k p last, callP D0 (k + 4) "index_of" [.val (.str x), .val (.int last)] p = .ok (.int (g last)) p
noncomputable def ixX (x : Str) : Exc := ⟨indexMsg x, codeI⟩
noncomputable def IxErr (x : Str) : Prop := ∀ k p last, callP D0 (k + 4) "index_of" [.val (.str x), .val (.int last)] p = .err (ixX x) p

section
variable {k : Nat} {p : Option Int} {t b : List Nat} {x y : Str} {w0 w1 : PyData} {g g' : Int → Int}

noncomputable def sIndex (t : List Nat) (v : Int) : Str := if v < 0 ∨ v ≥ t.length then (("" : String) : Str) else mk [t.getD v.toNat 0]
theorem d_string_index (ht : t.length < 900) (hx : IxOk x g) : callP D0 (k + 5) "string_index" [.val .none, .val (.list [w0, w1, .str (mk t), .str x])] p = .ok (.str (sIndex t (g ((t.length : Int) - 1)))) p := by
  have hc := hx k p ((t.length : Int) - 1)
  refine call_run (rec := recL 25) (ρ := [("host", .val .none), ("words", .val (.list [w0, w1, .str (mk t), .str x])), ("at", .unb), ("len", .glob), ("wrong_args", .glob), ("index_of", .glob)]) (by kernel_rfl) (by kernel_rfl) ?_
  generalize g ((t.length : Int) - 1) = v at hc
  unfold sIndex
  by_cases h1 : v < 0
  · rw [if_pos (.inl h1)]; walk_at "m run"
  by_cases h2 : v ≥ t.length
  · rw [if_pos (.inr h2)]; walk_at "m run"
  rw [if_neg (by omega)]
  have ha : subP (.str (mk t)) (.int v) = some (.str (mk [t.getD v.toNat 0])) := o_at (by omega) ⟨by omega, by omega⟩
  walk_at "m run"
theorem d_string_index_err (ht : t.length < 900) (hx : IxErr x) : callP D0 (k + 5) "string_index" [.val .none, .val (.list [w0, w1, .str (mk t), .str x])] p = .err (ixX x) p := by
  have hc := hx k p ((t.length : Int) - 1)
  refine call_run (rec := recL 25) (ρ := [("host", .val .none), ("words", .val (.list [w0, w1, .str (mk t), .str x])), ("at", .unb), ("len", .glob), ("wrong_args", .glob), ("index_of", .glob)]) (by kernel_rfl) (by kernel_rfl) ?_
  walk_at "m run"

noncomputable def sRange (t : List Nat) (f l : Int) : Str := if l < max f 0 then (("" : String) : Str) else mk ((t.take (l + 1).toNat).drop (max f 0).toNat)
noncomputable def sgL (t : List Nat) (x y : Str) (w0 w1 : PyData) (f l : LV) : Loc := [("host", .val .none), ("words", .val (.list [w0, w1, .str (mk t), .str x, .str y])), ("first", f), ("last", l), ("len", .glob), ("wrong_args", .glob), ("index_of", .glob)]
theorem d_string_range (ht : t.length < 900) (hx : IxOk x g) (hy : IxOk y g') : callP D0 (k + 5) "string_range" [.val .none, .val (.list [w0, w1, .str (mk t), .str x, .str y])] p = .ok (.str (sRange t (g ((t.length : Int) - 1)) (g' ((t.length : Int) - 1)))) p := by
  have hsz : t.length ≤ sizeLine := sz9 (Nat.lt_of_lt_of_le ht (by decide))
  have hc := hx k p ((t.length : Int) - 1)
  have hc' := hy k p ((t.length : Int) - 1)
  refine call_run (rec := recL 27) (ρ := sgL t x y w0 w1 .unb .unb) (by kernel_rfl) (by kernel_rfl) ?_
  generalize g ((t.length : Int) - 1) = v at hc
  generalize g' ((t.length : Int) - 1) = u at hc'
  unfold sRange
  obtain ⟨F, hF⟩ : ∃ F, max v 0 = F := ⟨_, rfl⟩
  have f0 : 0 ≤ F := hF ▸ Int.le_max_right v 0
  rw [hF]
  unfold sgL
  (conv => lhs; arg 1; arg 2; whnf)
  apply run_any (rr := .ok (.ret (.str (if u < F then (("" : String) : Str) else mk ((t.take (u + 1).toNat).drop F.toNat))), sgL t x y w0 w1 (.val (.int F)) (.val (.int u))) p)
  · walk_at "m s1"
    walk_at "m s1"
    walk_at "m s1"
    apply xs_next (ρ1 := sgL t x y w0 w1 (.val (.int F)) (.val (.int u))) (p1 := p)
    · unfold sgL
      by_cases h1 : v < 0
      · rw [← hF, Int.max_eq_right (Int.le_of_lt h1)]
        walk_at "m x"
      · rw [← hF, Int.max_eq_left (Int.not_lt.mp h1)]
        walk_at "m x"
    unfold sgL
    by_cases h2 : u < F
    · rw [if_pos h2]; walk_at "m st"
    · rw [if_neg h2]
      have hs : sliceP (.str (mk t)) (some F) (some (u + 1)) none = some (.str (mk ((t.take (u + 1).toNat).drop F.toNat))) := o_cut f0 (Int.le_trans f0 (Int.le_trans (Int.not_lt.mp h2) (Int.le_add_one (Int.le_refl _)))) hsz
      walk_at "m st"
  · rfl
theorem d_string_range_err (ht : t.length < 900) (hx : IxErr x) : callP D0 (k + 5) "string_range" [.val .none, .val (.list [w0, w1, .str (mk t), .str x, .str y])] p = .err (ixX x) p := by
  have hc := hx k p ((t.length : Int) - 1)
  refine call_run (rec := recL 27) (ρ := [("host", .val .none), ("words", .val (.list [w0, w1, .str (mk t), .str x, .str y])), ("first", .unb), ("last", .unb), ("len", .glob), ("wrong_args", .glob), ("index_of", .glob)]) (by kernel_rfl) (by kernel_rfl) ?_
  walk_at "m run"
theorem d_string_range_err2 (ht : t.length < 900) (hx : IxOk x g) (hy : IxErr y) : callP D0 (k + 5) "string_range" [.val .none, .val (.list [w0, w1, .str (mk t), .str x, .str y])] p = .err (ixX y) p := by
  have hc := hx k p ((t.length : Int) - 1)
  have hc' := hy k p ((t.length : Int) - 1)
  refine call_run (rec := recL 27) (ρ := [("host", .val .none), ("words", .val (.list [w0, w1, .str (mk t), .str x, .str y])), ("first", .unb), ("last", .unb), ("len", .glob), ("wrong_args", .glob), ("index_of", .glob)]) (by kernel_rfl) (by kernel_rfl) ?_
  walk_at "m run"
end
end

section
section
variable {k : Nat} {p : Option Int} {a t b : List Nat} {x y : Str} {w0 w1 : PyData} {g g' : Int → Int}

theorem faF_range (a l : List Nat) (s : Int) : -1 ≤ faF a l s ∧ faF a l s ≤ l.length := by
  unfold faF
  split
  · lia
  · split <;> lia
theorem laF_range (a l : List Nat) (s : Int) : -1 ≤ laF a l s ∧ laF a l s ≤ l.length := by
  have hT := laT_le (a := a) (l := l) (last := s)
  unfold laF
  split
  · lia
  · split <;> lia

theorem d_string_first0 (ha : a.length < 900) (ht : t.length < 900) : callP D0 (k + 5) "string_first" [.val .none, .val (.list [w0, w1, .str (mk a), .str (mk t)])] p = .ok (.str (strI (faF a t 0))) p := by
  have hc : callP D0 (k + 4) "first_at" [.val (.str (mk a)), .val (.str (mk t)), .val (.int 0)] p = .ok (.int (faF a t 0)) p := d_first_at ht ha
  have ho := o_str (i := faF a t 0) (by have := faF_range a t 0; omega)
  refine call_run (rec := recL 23) (ρ := [("host", .val .none), ("words", .val (.list [w0, w1, .str (mk a), .str (mk t)])), ("start", .unb), ("len", .glob), ("wrong_args", .glob), ("index_of", .glob), ("str", .glob), ("first_at", .glob)]) (by kernel_rfl) (by kernel_rfl) ?_
  walk_at "m run"
theorem d_string_first1 (ha : a.length < 900) (ht : t.length < 900) (hx : IxOk x g) : callP D0 (k + 5) "string_first" [.val .none, .val (.list [w0, w1, .str (mk a), .str (mk t), .str x])] p = .ok (.str (strI (faF a t (g ((t.length : Int) - 1))))) p := by
  have hi := hx k p ((t.length : Int) - 1)
  generalize g ((t.length : Int) - 1) = v at hi
  have hc : callP D0 (k + 4) "first_at" [.val (.str (mk a)), .val (.str (mk t)), .val (.int v)] p = .ok (.int (faF a t v)) p := d_first_at ht ha
  have ho := o_str (i := faF a t v) (by have := faF_range a t v; omega)
  refine call_run (rec := recL 23) (ρ := [("host", .val .none), ("words", .val (.list [w0, w1, .str (mk a), .str (mk t), .str x])), ("start", .unb), ("len", .glob), ("wrong_args", .glob), ("index_of", .glob), ("str", .glob), ("first_at", .glob)]) (by kernel_rfl) (by kernel_rfl) ?_
  walk_at "m run"
theorem d_string_first_err (ht : t.length < 900) (hx : IxErr x) : callP D0 (k + 5) "string_first" [.val .none, .val (.list [w0, w1, .str (mk a), .str (mk t), .str x])] p = .err (ixX x) p := by
  have hi := hx k p ((t.length : Int) - 1)
  refine call_run (rec := recL 23) (ρ := [("host", .val .none), ("words", .val (.list [w0, w1, .str (mk a), .str (mk t), .str x])), ("start", .unb), ("len", .glob), ("wrong_args", .glob), ("index_of", .glob), ("str", .glob), ("first_at", .glob)]) (by kernel_rfl) (by kernel_rfl) ?_
  walk_at "m run"
theorem d_string_last0 (ha : a.length < 900) (ht : t.length < 900) : callP D0 (k + 5) "string_last" [.val .none, .val (.list [w0, w1, .str (mk a), .str (mk t)])] p = .ok (.str (strI (laF a t ((t.length : Int) - 1)))) p := by
  have hc : callP D0 (k + 4) "last_at" [.val (.str (mk a)), .val (.str (mk t)), .val (.int ((t.length : Int) - 1))] p = .ok (.int (laF a t ((t.length : Int) - 1))) p := d_last_at ht ha
  have ho := o_str (i := laF a t ((t.length : Int) - 1)) (by have := laF_range a t ((t.length : Int) - 1); omega)
  refine call_run (rec := recL 24) (ρ := [("host", .val .none), ("words", .val (.list [w0, w1, .str (mk a), .str (mk t)])), ("last", .unb), ("len", .glob), ("wrong_args", .glob), ("index_of", .glob), ("str", .glob), ("last_at", .glob)]) (by kernel_rfl) (by kernel_rfl) ?_
  walk_at "m run"
theorem d_string_last1 (ha : a.length < 900) (ht : t.length < 900) (hx : IxOk x g) : callP D0 (k + 5) "string_last" [.val .none, .val (.list [w0, w1, .str (mk a), .str (mk t), .str x])] p = .ok (.str (strI (laF a t (g ((t.length : Int) - 1))))) p := by
  have hi := hx k p ((t.length : Int) - 1)
  generalize g ((t.length : Int) - 1) = v at hi
  have hc : callP D0 (k + 4) "last_at" [.val (.str (mk a)), .val (.str (mk t)), .val (.int v)] p = .ok (.int (laF a t v)) p := d_last_at ht ha
  have ho := o_str (i := laF a t v) (by have := laF_range a t v; omega)
  refine call_run (rec := recL 24) (ρ := [("host", .val .none), ("words", .val (.list [w0, w1, .str (mk a), .str (mk t), .str x])), ("last", .unb), ("len", .glob), ("wrong_args", .glob), ("index_of", .glob), ("str", .glob), ("last_at", .glob)]) (by kernel_rfl) (by kernel_rfl) ?_
  walk_at "m run"
theorem d_string_last_err (ht : t.length < 900) (hx : IxErr x) : callP D0 (k + 5) "string_last" [.val .none, .val (.list [w0, w1, .str (mk a), .str (mk t), .str x])] p = .err (ixX x) p := by
  have hi := hx k p ((t.length : Int) - 1)
  refine call_run (rec := recL 24) (ρ := [("host", .val .none), ("words", .val (.list [w0, w1, .str (mk a), .str (mk t), .str x])), ("last", .unb), ("len", .glob), ("wrong_args", .glob), ("index_of", .glob), ("str", .glob), ("last_at", .glob)]) (by kernel_rfl) (by kernel_rfl) ?_
  walk_at "m run"

noncomputable def sInsert (t b : List Nat) (v : Int) : List Nat := t.take (max v 0).toNat ++ b ++ t.drop (max v 0).toNat
noncomputable def siL (t b : List Nat) (x : Str) (w0 w1 : PyData) (y a : LV) : Loc := [("host", .val .none), ("words", .val (.list [w0, w1, .str (mk t), .str x, .str (mk b)])), ("text", y), ("at", a), ("len", .glob), ("wrong_args", .glob), ("index_of", .glob)]
theorem d_string_insert (ht : t.length < 900) (hb : b.length < 900) (hx : IxOk x g) : callP D0 (k + 5) "string_insert" [.val .none, .val (.list [w0, w1, .str (mk t), .str x, .str (mk b)])] p = .ok (.str (mk (sInsert t b (g t.length)))) p := by
  have hsz : t.length ≤ sizeLine := sz9 (Nat.lt_of_lt_of_le ht (by decide))
  have hi := hx k p (t.length : Int)
  generalize g (t.length : Int) = v at hi
  refine call_run (rec := recL 28) (ρ := siL t b x w0 w1 .unb .unb) (by kernel_rfl) (by kernel_rfl) ?_
  unfold sInsert
  obtain ⟨F, hF⟩ : ∃ F, max v 0 = F := ⟨_, rfl⟩
  have f0 : 0 ≤ F := hF ▸ Int.le_max_right v 0
  rw [hF]
  have s1 : sliceP (.str (mk t)) none (some F) none = some (.str (mk (t.take F.toNat))) := o_cutL f0 hsz
  have s2 : sliceP (.str (mk t)) (some F) none none = some (.str (mk (t.drop F.toNat))) := o_cutR f0 hsz
  have z1 := app_le (cut_le (n := F.toNat) (Nat.le_of_lt ht)).1 (Nat.le_of_lt hb)
  have z2 := sz_m (app_le z1 (cut_le (n := F.toNat) (Nat.le_of_lt ht)).2) (by decide)
  have z1 := sz_m z1 (by decide)
  unfold siL
  walk_at "m r0"
  · walk_at "m s1"
    walk_at "m s1"
    walk_at "m s1"
    apply xs_next (ρ1 := siL t b x w0 w1 (.val (.str (mk t))) (.val (.int F))) (p1 := p)
    · unfold siL
      by_cases h1 : v < 0
      · rw [← hF, Int.max_eq_right (Int.le_of_lt h1)]
        walk_at "m x"
      · rw [← hF, Int.max_eq_left (Int.not_lt.mp h1)]
        walk_at "m x"
    unfold siL
    walk_at "m st"
  all_goals rfl
theorem d_string_insert_err (ht : t.length < 900) (hx : IxErr x) : callP D0 (k + 5) "string_insert" [.val .none, .val (.list [w0, w1, .str (mk t), .str x, .str (mk b)])] p = .err (ixX x) p := by
  have hi := hx k p (t.length : Int)
  refine call_run (rec := recL 28) (ρ := [("host", .val .none), ("words", .val (.list [w0, w1, .str (mk t), .str x, .str (mk b)])), ("text", .unb), ("at", .unb), ("len", .glob), ("wrong_args", .glob), ("index_of", .glob)]) (by kernel_rfl) (by kernel_rfl) ?_
  walk_at "m run"

theorem d_string_replace5 (ht : t.length < 900) (hx : IxOk x g) (hy : IxOk y g') : callP D0 (k + 5) "string_replace" [.val .none, .val (.list [w0, w1, .str (mk t), .str x, .str y])] p = .ok (.str (mk (rpF t (g ((t.length : Int) - 1)) (g' ((t.length : Int) - 1)) []))) p := by
  have hi := hx k p ((t.length : Int) - 1)
  have hi' := hy k p ((t.length : Int) - 1)
  generalize g ((t.length : Int) - 1) = v at hi
  generalize g' ((t.length : Int) - 1) = u at hi'
  have hc : callP D0 (k + 4) "replace" [.val (.str (mk t)), .val (.int v), .val (.int u), .val (.str (("" : String) : Str))] p = .ok (.str (mk (rpF t v u []))) p := by rw [nil_eq]; exact d_replace ht (by decide)
  refine call_run (rec := recL 30) (ρ := [("host", .val .none), ("words", .val (.list [w0, w1, .str (mk t), .str x, .str y])), ("first", .unb), ("last", .unb), ("by", .unb), ("len", .glob), ("wrong_args", .glob), ("index_of", .glob), ("replace", .glob)]) (by kernel_rfl) (by kernel_rfl) ?_
  walk_at "m run"
theorem d_string_replace6 (ht : t.length < 900) (hb : b.length < 900) (hx : IxOk x g) (hy : IxOk y g') : callP D0 (k + 5) "string_replace" [.val .none, .val (.list [w0, w1, .str (mk t), .str x, .str y, .str (mk b)])] p = .ok (.str (mk (rpF t (g ((t.length : Int) - 1)) (g' ((t.length : Int) - 1)) b))) p := by
  have hi := hx k p ((t.length : Int) - 1)
  have hi' := hy k p ((t.length : Int) - 1)
  generalize g ((t.length : Int) - 1) = v at hi
  generalize g' ((t.length : Int) - 1) = u at hi'
  have hc : callP D0 (k + 4) "replace" [.val (.str (mk t)), .val (.int v), .val (.int u), .val (.str (mk b))] p = .ok (.str (mk (rpF t v u b))) p := d_replace ht hb
  refine call_run (rec := recL 30) (ρ := [("host", .val .none), ("words", .val (.list [w0, w1, .str (mk t), .str x, .str y, .str (mk b)])), ("first", .unb), ("last", .unb), ("by", .unb), ("len", .glob), ("wrong_args", .glob), ("index_of", .glob), ("replace", .glob)]) (by kernel_rfl) (by kernel_rfl) ?_
  walk_at "m run"
theorem d_string_replace_err {rest : List PyData} (hr : rest = [] ∨ ∃ z, rest = [z]) (ht : t.length < 900) (hx : IxErr x) : callP D0 (k + 5) "string_replace" [.val .none, .val (.list (w0 :: w1 :: .str (mk t) :: .str x :: .str y :: rest))] p = .err (ixX x) p := by
  have hi := hx k p ((t.length : Int) - 1)
  refine call_run (rec := recL 30) (ρ := [("host", .val .none), ("words", .val (.list (w0 :: w1 :: .str (mk t) :: .str x :: .str y :: rest))), ("first", .unb), ("last", .unb), ("by", .unb), ("len", .glob), ("wrong_args", .glob), ("index_of", .glob), ("replace", .glob)]) (by kernel_rfl) (by kernel_rfl) ?_
  rcases hr with rfl | ⟨z, rfl⟩
  · walk_at "m run"
  · walk_at "m run"
theorem d_string_replace_err2 {rest : List PyData} (hr : rest = [] ∨ ∃ z, rest = [z]) (ht : t.length < 900) (hx : IxOk x g) (hy : IxErr y) : callP D0 (k + 5) "string_replace" [.val .none, .val (.list (w0 :: w1 :: .str (mk t) :: .str x :: .str y :: rest))] p = .err (ixX y) p := by
  have hi := hx k p ((t.length : Int) - 1)
  have hi' := hy k p ((t.length : Int) - 1)
  refine call_run (rec := recL 30) (ρ := [("host", .val .none), ("words", .val (.list (w0 :: w1 :: .str (mk t) :: .str x :: .str y :: rest))), ("first", .unb), ("last", .unb), ("by", .unb), ("len", .glob), ("wrong_args", .glob), ("index_of", .glob), ("replace", .glob)]) (by kernel_rfl) (by kernel_rfl) ?_
  rcases hr with rfl | ⟨z, rfl⟩
  · walk_at "m run"
  · walk_at "m run"

theorem d_string_reverse (ht : t.length < 900) : callP D0 (k + 5) "string_reverse" [.val .none, .val (.list [w0, w1, .str (mk t)])] p = .ok (.str (mk t.reverse)) p := by
  have hr := o_rev (l := t) (by have := sizeLine_big; lia)
  refine call_run (rec := recL 31) (ρ := [("host", .val .none), ("words", .val (.list [w0, w1, .str (mk t)])), ("len", .glob), ("wrong_args", .glob)]) (by kernel_rfl) (by kernel_rfl) ?_
  walk_at "m run"
theorem d_string_length (ht : t.length < 900) : callP D0 (k + 5) "string_length" [.val .none, .val (.list [w0, w1, .str (mk t)])] p = .ok (.str (strI t.length)) p := by
  have hsz : t.length ≤ sizeLine := sz8 (by assumption)
  have ho := o_str (i := (t.length : Int)) (by lia)
  refine call_run (rec := recL 26) (ρ := [("host", .val .none), ("words", .val (.list [w0, w1, .str (mk t)])), ("len", .glob), ("wrong_args", .glob), ("str", .glob)]) (by kernel_rfl) (by kernel_rfl) ?_
  walk_at "m run"

noncomputable def defTrim : Str := "\t\n\x0b\x0c\r \x00\u0085\u00a0\u1680\u180e\u2000\u2001\u2002\u2003\u2004\u2005\u2006\u2007\u2008\u2009\u200a\u200b\u2028\u2029\u202f\u205f\u2060\u3000\ufeff"
theorem d_default_trim : callP D0 (k + 1) "default_trim" [] p = .ok (.str defTrim) p := by kernel_rfl
theorem d_trim_signs0 {u : Str} : callP D0 (k + 2) "trim_signs" [.val (.list [w0, w1, .str (mk t)]), .val (.str u)] p = .ok (.str defTrim) p := by
  have hc : callP D0 (k + 1) "default_trim" [] p = .ok (.str defTrim) p := d_default_trim
  refine call_run (rec := recL 32) (ρ := [("words", .val (.list [w0, w1, .str (mk t)])), ("usage", .val (.str u)), ("len", .glob), ("wrong_args", .glob), ("default_trim", .glob)]) (by kernel_rfl) (by kernel_rfl) ?_
  walk_at "m run"
theorem d_trim_signs1 {u s : Str} : callP D0 (k + 2) "trim_signs" [.val (.list [w0, w1, .str (mk t), .str s]), .val (.str u)] p = .ok (.str s) p := by
  refine call_run (rec := recL 32) (ρ := [("words", .val (.list [w0, w1, .str (mk t), .str s])), ("usage", .val (.str u)), ("len", .glob), ("wrong_args", .glob), ("default_trim", .glob)]) (by kernel_rfl) (by kernel_rfl) ?_
  walk_at "m run"
noncomputable def ttF (s : Str) (t : List Nat) : List Nat := (t.drop (tlA s t)).take ((t.drop (tlA s t)).length - trN s (t.drop (tlA s t)))
theorem d_string_trim {rest : List PyData} {s : Str} (hs : ∀ k p u, callP D0 (k + 2) "trim_signs" [.val (.list (w0 :: w1 :: .str (mk t) :: rest)), .val (.str u)] p = .ok (.str s) p) (hr : rest.length < 900) (ht : t.length < 900) : callP D0 (k + 5) "string_trim" [.val .none, .val (.list (w0 :: w1 :: .str (mk t) :: rest))] p = .ok (.str (mk (ttF s t))) p := by
  have hc := hs (k + 2) p "string trim string ?chars?"
  have h1 : callP D0 (k + 4) "trim_left" [.val (.str (mk t)), .val (.str s)] p = .ok (.str (mk (t.drop (tlA s t)))) p := d_trim_left ht
  have h2 : callP D0 (k + 4) "trim_right" [.val (.str (mk (t.drop (tlA s t)))), .val (.str s)] p = .ok (.str (mk (ttF s t))) p := d_trim_right (by simp only [List.length_drop]; omega)
  have e2 : subP (.list (w0 :: w1 :: .str (mk t) :: rest)) (.int 2) = some (.str (mk t)) := o_pick (i := 2) (by omega) ⟨by simp only [List.length_cons]; omega, by simp only [List.length_cons]; omega⟩ rfl
  refine call_run (rec := recL 33) (ρ := [("host", .val .none), ("words", .val (.list (w0 :: w1 :: .str (mk t) :: rest))), ("signs", .unb), ("trim_signs", .glob), ("trim_right", .glob), ("trim_left", .glob)]) (by kernel_rfl) (by kernel_rfl) ?_
  walk_at "m run"
theorem d_string_trimleft {rest : List PyData} {s : Str} (hs : ∀ k p u, callP D0 (k + 2) "trim_signs" [.val (.list (w0 :: w1 :: .str (mk t) :: rest)), .val (.str u)] p = .ok (.str s) p) (hr : rest.length < 900) (ht : t.length < 900) : callP D0 (k + 5) "string_trimleft" [.val .none, .val (.list (w0 :: w1 :: .str (mk t) :: rest))] p = .ok (.str (mk (t.drop (tlA s t)))) p := by
  have hc := hs (k + 2) p "string trimleft string ?chars?"
  have h1 : callP D0 (k + 4) "trim_left" [.val (.str (mk t)), .val (.str s)] p = .ok (.str (mk (t.drop (tlA s t)))) p := d_trim_left ht
  have e2 : subP (.list (w0 :: w1 :: .str (mk t) :: rest)) (.int 2) = some (.str (mk t)) := o_pick (i := 2) (by omega) ⟨by simp only [List.length_cons]; omega, by simp only [List.length_cons]; omega⟩ rfl
  refine call_run (rec := recL 34) (ρ := [("host", .val .none), ("words", .val (.list (w0 :: w1 :: .str (mk t) :: rest))), ("signs", .unb), ("trim_signs", .glob), ("trim_left", .glob)]) (by kernel_rfl) (by kernel_rfl) ?_
  walk_at "m run"
theorem d_string_trimright {rest : List PyData} {s : Str} (hs : ∀ k p u, callP D0 (k + 2) "trim_signs" [.val (.list (w0 :: w1 :: .str (mk t) :: rest)), .val (.str u)] p = .ok (.str s) p) (hr : rest.length < 900) (ht : t.length < 900) : callP D0 (k + 5) "string_trimright" [.val .none, .val (.list (w0 :: w1 :: .str (mk t) :: rest))] p = .ok (.str (mk (t.take (t.length - trN s t)))) p := by
  have hc := hs (k + 2) p "string trimright string ?chars?"
  have h1 : callP D0 (k + 4) "trim_right" [.val (.str (mk t)), .val (.str s)] p = .ok (.str (mk (t.take (t.length - trN s t)))) p := d_trim_right ht
  have e2 : subP (.list (w0 :: w1 :: .str (mk t) :: rest)) (.int 2) = some (.str (mk t)) := o_pick (i := 2) (by lia) ⟨by simp only [List.length_cons]; lia, by simp only [List.length_cons]; lia⟩ rfl
  refine call_run (rec := recL 35) (ρ := [("host", .val .none), ("words", .val (.list (w0 :: w1 :: .str (mk t) :: rest))), ("signs", .unb), ("trim_signs", .glob), ("trim_right", .glob)]) (by kernel_rfl) (by kernel_rfl) ?_
  walk_at "m run"
end
end

section

section
variable {k : Nat} {p : Option Int} {a t b : List Nat} {x y : Str} {w0 w1 : PyData} {g g' : Int → Int}
theorem o_mul_str {z : Str} {n : Int} (h1 : n ≤ 900) (h0 : 1 ≤ n) (h2 : z.length ≤ 900) : binP .Mult (.str z) (.int n) = some (.str (Txt.mul z n)) := by
  show only (decide (n ≤ 1000) && decide (z.length ≤ 1000) && decide (-(2 ^ 63) ≤ n)) _ = _
  exact on (by rw [decide_eq_true (show n ≤ 1000 by lia), decide_eq_true (show z.length ≤ 1000 by lia), decide_eq_true (Int.le_trans (by decide) (Int.le_trans (show (0 : Int) ≤ 1 by decide) h0))]; rfl) rfl
noncomputable def WdOk (x : Str) (v : Int) : Prop := ∀ k p, callP D0 (k + 5) "need_wide" [.val (.str x)] p = .ok (.int v) p
noncomputable def WdErr (x : Str) (e : Exc) : Prop := ∀ k p, callP D0 (k + 5) "need_wide" [.val (.str x)] p = .err e p
noncomputable def sRepeat (t : List Nat) (v : Int) : Str := if v < 1 ∨ t = [] then (("" : String) : Str) else Txt.mul (mk t) v
theorem d_string_repeat {v : Int} (ht : t.length < 900) (hv : v ≤ 900) (hx : WdOk x v) : callP D0 (k + 6) "string_repeat" [.val .none, .val (.list [w0, w1, .str (mk t), .str x])] p = .ok (.str (sRepeat t v)) p := by
  have hi := hx k p
  have hsz : t.length ≤ sizeLine := sz8 (by assumption)
  refine call_run (rec := recL 29) (ρ := [("host", .val .none), ("words", .val (.list [w0, w1, .str (mk t), .str x])), ("count", .unb), ("len", .glob), ("wrong_args", .glob), ("need_wide", .glob), ("error", .glob)]) (by kernel_rfl) (by kernel_rfl) ?_
  unfold sRepeat
  by_cases h1 : v < 1
  · rw [if_pos (.inl h1)]; walk_at "m run"
  by_cases h2 : t = []
  · rw [if_pos (.inr h2)]
    have c0 : t.isEmpty = true := by rw [h2]; rfl
    walk_at "m run"
  rw [if_neg (fun q => q.elim h1 h2)]
  have c0 : t.isEmpty = false := by cases t <;> first | exact absurd rfl h2 | rfl
  have m1 : binP .Mult (.int v) (.int t.length) = some (.int (v * t.length)) := o_mul_small (bits_small (by lia))
  have m2 : binP .LShift (.int 1) (.int 31) = some (.int 2147483648) := by kernel_rfl
  have m3 : binP .Mult (.str (mk t)) (.int v) = some (.str (Txt.mul (mk t) v)) := o_mul_str hv (by lia) (by rw [mk_length]; lia)
  have m4 : v * (t.length : Int) ≤ 900 * 900 := Int.mul_le_mul hv (by lia) (by lia) (by lia)
  have c1 : decide (v * (t.length : Int) ≥ 2147483648) = false := decide_eq_false (by lia)
  walk_at "m run"
theorem d_string_repeat_err {e : Exc} (hx : WdErr x e) : callP D0 (k + 6) "string_repeat" [.val .none, .val (.list [w0, w1, .str (mk t), .str x])] p = .err e p := by
  have hi := hx k p
  refine call_run (rec := recL 29) (ρ := [("host", .val .none), ("words", .val (.list [w0, w1, .str (mk t), .str x])), ("count", .unb), ("len", .glob), ("wrong_args", .glob), ("need_wide", .glob), ("error", .glob)]) (by kernel_rfl) (by kernel_rfl) ?_
  walk_at "m run"
end
section
variable {k : Nat} {p : Option Int} {W d : PyData} {e : Exc}
theorem d_call_index (hc : callP D0 k "string_index" [.val .none, .val W] p = .ok d p) : callP D0 (k + 1) "_law_call" [.val (.str "index"), .val W] p = .ok d p := by
  refine call_run (rec := recL 43) (ρ := [("name", .val (.str "index")), ("words", .val W), ("string_index", .glob), ("string_range", .glob), ("string_first", .glob), ("string_last", .glob), ("string_insert", .glob), ("string_replace", .glob), ("string_repeat", .glob), ("string_reverse", .glob), ("string_length", .glob), ("string_trim", .glob), ("string_trimleft", .glob), ("string_trimright", .glob)]) (by kernel_rfl) (by kernel_rfl) ?_
  walk_at "m run"
theorem d_call_index_err (hc : callP D0 k "string_index" [.val .none, .val W] p = .err e p) : callP D0 (k + 1) "_law_call" [.val (.str "index"), .val W] p = .err e p := by
  refine call_run (rec := recL 43) (ρ := [("name", .val (.str "index")), ("words", .val W), ("string_index", .glob), ("string_range", .glob), ("string_first", .glob), ("string_last", .glob), ("string_insert", .glob), ("string_replace", .glob), ("string_repeat", .glob), ("string_reverse", .glob), ("string_length", .glob), ("string_trim", .glob), ("string_trimleft", .glob), ("string_trimright", .glob)]) (by kernel_rfl) (by kernel_rfl) ?_
  walk_at "m run"
theorem d_call_range (hc : callP D0 k "string_range" [.val .none, .val W] p = .ok d p) : callP D0 (k + 1) "_law_call" [.val (.str "range"), .val W] p = .ok d p := by
  refine call_run (rec := recL 43) (ρ := [("name", .val (.str "range")), ("words", .val W), ("string_index", .glob), ("string_range", .glob), ("string_first", .glob), ("string_last", .glob), ("string_insert", .glob), ("string_replace", .glob), ("string_repeat", .glob), ("string_reverse", .glob), ("string_length", .glob), ("string_trim", .glob), ("string_trimleft", .glob), ("string_trimright", .glob)]) (by kernel_rfl) (by kernel_rfl) ?_
  walk_at "m run"
theorem d_call_range_err (hc : callP D0 k "string_range" [.val .none, .val W] p = .err e p) : callP D0 (k + 1) "_law_call" [.val (.str "range"), .val W] p = .err e p := by
  refine call_run (rec := recL 43) (ρ := [("name", .val (.str "range")), ("words", .val W), ("string_index", .glob), ("string_range", .glob), ("string_first", .glob), ("string_last", .glob), ("string_insert", .glob), ("string_replace", .glob), ("string_repeat", .glob), ("string_reverse", .glob), ("string_length", .glob), ("string_trim", .glob), ("string_trimleft", .glob), ("string_trimright", .glob)]) (by kernel_rfl) (by kernel_rfl) ?_
  walk_at "m run"
theorem d_call_first (hc : callP D0 k "string_first" [.val .none, .val W] p = .ok d p) : callP D0 (k + 1) "_law_call" [.val (.str "first"), .val W] p = .ok d p := by
  refine call_run (rec := recL 43) (ρ := [("name", .val (.str "first")), ("words", .val W), ("string_index", .glob), ("string_range", .glob), ("string_first", .glob), ("string_last", .glob), ("string_insert", .glob), ("string_replace", .glob), ("string_repeat", .glob), ("string_reverse", .glob), ("string_length", .glob), ("string_trim", .glob), ("string_trimleft", .glob), ("string_trimright", .glob)]) (by kernel_rfl) (by kernel_rfl) ?_
  walk_at "m run"
theorem d_call_first_err (hc : callP D0 k "string_first" [.val .none, .val W] p = .err e p) : callP D0 (k + 1) "_law_call" [.val (.str "first"), .val W] p = .err e p := by
  refine call_run (rec := recL 43) (ρ := [("name", .val (.str "first")), ("words", .val W), ("string_index", .glob), ("string_range", .glob), ("string_first", .glob), ("string_last", .glob), ("string_insert", .glob), ("string_replace", .glob), ("string_repeat", .glob), ("string_reverse", .glob), ("string_length", .glob), ("string_trim", .glob), ("string_trimleft", .glob), ("string_trimright", .glob)]) (by kernel_rfl) (by kernel_rfl) ?_
  walk_at "m run"
theorem d_call_last (hc : callP D0 k "string_last" [.val .none, .val W] p = .ok d p) : callP D0 (k + 1) "_law_call" [.val (.str "last"), .val W] p = .ok d p := by
  refine call_run (rec := recL 43) (ρ := [("name", .val (.str "last")), ("words", .val W), ("string_index", .glob), ("string_range", .glob), ("string_first", .glob), ("string_last", .glob), ("string_insert", .glob), ("string_replace", .glob), ("string_repeat", .glob), ("string_reverse", .glob), ("string_length", .glob), ("string_trim", .glob), ("string_trimleft", .glob), ("string_trimright", .glob)]) (by kernel_rfl) (by kernel_rfl) ?_
  walk_at "m run"
theorem d_call_last_err (hc : callP D0 k "string_last" [.val .none, .val W] p = .err e p) : callP D0 (k + 1) "_law_call" [.val (.str "last"), .val W] p = .err e p := by
  refine call_run (rec := recL 43) (ρ := [("name", .val (.str "last")), ("words", .val W), ("string_index", .glob), ("string_range", .glob), ("string_first", .glob), ("string_last", .glob), ("string_insert", .glob), ("string_replace", .glob), ("string_repeat", .glob), ("string_reverse", .glob), ("string_length", .glob), ("string_trim", .glob), ("string_trimleft", .glob), ("string_trimright", .glob)]) (by kernel_rfl) (by kernel_rfl) ?_
  walk_at "m run"
theorem d_call_insert (hc : callP D0 k "string_insert" [.val .none, .val W] p = .ok d p) : callP D0 (k + 1) "_law_call" [.val (.str "insert"), .val W] p = .ok d p := by
  refine call_run (rec := recL 43) (ρ := [("name", .val (.str "insert")), ("words", .val W), ("string_index", .glob), ("string_range", .glob), ("string_first", .glob), ("string_last", .glob), ("string_insert", .glob), ("string_replace", .glob), ("string_repeat", .glob), ("string_reverse", .glob), ("string_length", .glob), ("string_trim", .glob), ("string_trimleft", .glob), ("string_trimright", .glob)]) (by kernel_rfl) (by kernel_rfl) ?_
  walk_at "m run"
theorem d_call_insert_err (hc : callP D0 k "string_insert" [.val .none, .val W] p = .err e p) : callP D0 (k + 1) "_law_call" [.val (.str "insert"), .val W] p = .err e p := by
  refine call_run (rec := recL 43) (ρ := [("name", .val (.str "insert")), ("words", .val W), ("string_index", .glob), ("string_range", .glob), ("string_first", .glob), ("string_last", .glob), ("string_insert", .glob), ("string_replace", .glob), ("string_repeat", .glob), ("string_reverse", .glob), ("string_length", .glob), ("string_trim", .glob), ("string_trimleft", .glob), ("string_trimright", .glob)]) (by kernel_rfl) (by kernel_rfl) ?_
  walk_at "m run"
theorem d_call_replace (hc : callP D0 k "string_replace" [.val .none, .val W] p = .ok d p) : callP D0 (k + 1) "_law_call" [.val (.str "replace"), .val W] p = .ok d p := by
  refine call_run (rec := recL 43) (ρ := [("name", .val (.str "replace")), ("words", .val W), ("string_index", .glob), ("string_range", .glob), ("string_first", .glob), ("string_last", .glob), ("string_insert", .glob), ("string_replace", .glob), ("string_repeat", .glob), ("string_reverse", .glob), ("string_length", .glob), ("string_trim", .glob), ("string_trimleft", .glob), ("string_trimright", .glob)]) (by kernel_rfl) (by kernel_rfl) ?_
  walk_at "m run"
theorem d_call_replace_err (hc : callP D0 k "string_replace" [.val .none, .val W] p = .err e p) : callP D0 (k + 1) "_law_call" [.val (.str "replace"), .val W] p = .err e p := by
  refine call_run (rec := recL 43) (ρ := [("name", .val (.str "replace")), ("words", .val W), ("string_index", .glob), ("string_range", .glob), ("string_first", .glob), ("string_last", .glob), ("string_insert", .glob), ("string_replace", .glob), ("string_repeat", .glob), ("string_reverse", .glob), ("string_length", .glob), ("string_trim", .glob), ("string_trimleft", .glob), ("string_trimright", .glob)]) (by kernel_rfl) (by kernel_rfl) ?_
  walk_at "m run"
theorem d_call_repeat (hc : callP D0 k "string_repeat" [.val .none, .val W] p = .ok d p) : callP D0 (k + 1) "_law_call" [.val (.str "repeat"), .val W] p = .ok d p := by
  refine call_run (rec := recL 43) (ρ := [("name", .val (.str "repeat")), ("words", .val W), ("string_index", .glob), ("string_range", .glob), ("string_first", .glob), ("string_last", .glob), ("string_insert", .glob), ("string_replace", .glob), ("string_repeat", .glob), ("string_reverse", .glob), ("string_length", .glob), ("string_trim", .glob), ("string_trimleft", .glob), ("string_trimright", .glob)]) (by kernel_rfl) (by kernel_rfl) ?_
  walk_at "m run"
theorem d_call_repeat_err (hc : callP D0 k "string_repeat" [.val .none, .val W] p = .err e p) : callP D0 (k + 1) "_law_call" [.val (.str "repeat"), .val W] p = .err e p := by
  refine call_run (rec := recL 43) (ρ := [("name", .val (.str "repeat")), ("words", .val W), ("string_index", .glob), ("string_range", .glob), ("string_first", .glob), ("string_last", .glob), ("string_insert", .glob), ("string_replace", .glob), ("string_repeat", .glob), ("string_reverse", .glob), ("string_length", .glob), ("string_trim", .glob), ("string_trimleft", .glob), ("string_trimright", .glob)]) (by kernel_rfl) (by kernel_rfl) ?_
  walk_at "m run"
theorem d_call_reverse (hc : callP D0 k "string_reverse" [.val .none, .val W] p = .ok d p) : callP D0 (k + 1) "_law_call" [.val (.str "reverse"), .val W] p = .ok d p := by
  refine call_run (rec := recL 43) (ρ := [("name", .val (.str "reverse")), ("words", .val W), ("string_index", .glob), ("string_range", .glob), ("string_first", .glob), ("string_last", .glob), ("string_insert", .glob), ("string_replace", .glob), ("string_repeat", .glob), ("string_reverse", .glob), ("string_length", .glob), ("string_trim", .glob), ("string_trimleft", .glob), ("string_trimright", .glob)]) (by kernel_rfl) (by kernel_rfl) ?_
  walk_at "m run"
theorem d_call_length (hc : callP D0 k "string_length" [.val .none, .val W] p = .ok d p) : callP D0 (k + 1) "_law_call" [.val (.str "length"), .val W] p = .ok d p := by
  refine call_run (rec := recL 43) (ρ := [("name", .val (.str "length")), ("words", .val W), ("string_index", .glob), ("string_range", .glob), ("string_first", .glob), ("string_last", .glob), ("string_insert", .glob), ("string_replace", .glob), ("string_repeat", .glob), ("string_reverse", .glob), ("string_length", .glob), ("string_trim", .glob), ("string_trimleft", .glob), ("string_trimright", .glob)]) (by kernel_rfl) (by kernel_rfl) ?_
  walk_at "m run"
theorem d_call_trim (hc : callP D0 k "string_trim" [.val .none, .val W] p = .ok d p) : callP D0 (k + 1) "_law_call" [.val (.str "trim"), .val W] p = .ok d p := by
  refine call_run (rec := recL 43) (ρ := [("name", .val (.str "trim")), ("words", .val W), ("string_index", .glob), ("string_range", .glob), ("string_first", .glob), ("string_last", .glob), ("string_insert", .glob), ("string_replace", .glob), ("string_repeat", .glob), ("string_reverse", .glob), ("string_length", .glob), ("string_trim", .glob), ("string_trimleft", .glob), ("string_trimright", .glob)]) (by kernel_rfl) (by kernel_rfl) ?_
  walk_at "m run"
theorem d_call_trimleft (hc : callP D0 k "string_trimleft" [.val .none, .val W] p = .ok d p) : callP D0 (k + 1) "_law_call" [.val (.str "trimleft"), .val W] p = .ok d p := by
  refine call_run (rec := recL 43) (ρ := [("name", .val (.str "trimleft")), ("words", .val W), ("string_index", .glob), ("string_range", .glob), ("string_first", .glob), ("string_last", .glob), ("string_insert", .glob), ("string_replace", .glob), ("string_repeat", .glob), ("string_reverse", .glob), ("string_length", .glob), ("string_trim", .glob), ("string_trimleft", .glob), ("string_trimright", .glob)]) (by kernel_rfl) (by kernel_rfl) ?_
  walk_at "m run"
theorem d_call_trimright (hc : callP D0 k "string_trimright" [.val .none, .val W] p = .ok d p) : callP D0 (k + 1) "_law_call" [.val (.str "trimright"), .val W] p = .ok d p := by
  refine call_run (rec := recL 43) (ρ := [("name", .val (.str "trimright")), ("words", .val W), ("string_index", .glob), ("string_range", .glob), ("string_first", .glob), ("string_last", .glob), ("string_insert", .glob), ("string_replace", .glob), ("string_repeat", .glob), ("string_reverse", .glob), ("string_length", .glob), ("string_trim", .glob), ("string_trimleft", .glob), ("string_trimright", .glob)]) (by kernel_rfl) (by kernel_rfl) ?_
  walk_at "m run"
theorem es_err {ev : Option Int → Expr → Res PyData} {e' e1 : Expr} {d : PyData} {p p1 p2 : Option Int} (hs : notStar e' = true) (hs1 : notStar e1 = true) (h0 : ev p e' = .ok d p1) (h1 : ev p1 e1 = .err e p2) : evalsP ev [e', e1] p = .err e p2 := wh hs (bd h0 (bdE (wh hs1 (bdE h1))))
theorem v_tuple_err {C : CallP} {n : Nat} {ρ : Loc} {es : List Expr} {k : Nat} {q : Pos} {p1 : Option Int} (h : evalsP (evP n C false ρ) es p = .err e p1) : evP (n + 1) C false ρ p (.Tuple es k q) = .err e p1 := bdE h
section
variable {C : CallP} {n : Nat} {ρ : Loc} {pp : Option Int} {body : List Stmt} {hs : List ExceptHandler} {pos : Pos} {ex : Expr} {t : TryS}
theorem x_try_ok (ha : asTry body hs = some (ex, t)) (hc : t.ok ρ = true) (he : evP n C false ρ p ex = .ok d pp) : exP C (n + 1) ρ p (.Try body hs [] [] pos) = .ok (.ret d, ρ) pp := os ha (wh hc (by show tryR (evP n C false ρ p ex) ρ t.g = _; rw [he]; rfl))
theorem x_try_err (ha : asTry body hs = some (ex, t)) (hc : t.ok ρ = true) (he : evP n C false ρ p ex = .err e pp) : exP C (n + 1) ρ p (.Try body hs [] [] pos) = .ok (.ret (.tuple [.str t.g, .int 1, .str e.msg, e.code]), []) pp := os ha (wh hc (by show tryR (evP n C false ρ p ex) ρ t.g = _; rw [he]; rfl))
end
theorem d_heard {nm : Str} (hc : callP D0 k "_law_call" [.val (.str nm), .val W] p = .ok d p) : callP D0 (k + 1) "_law_heard" [.val (.str nm), .val W] p = .ok (.tuple [.str "gave", d]) p := by
  refine call_run (rec := recL 44) (ρ := [("name", .val (.str nm)), ("words", .val W), ("fault", .unb), ("_law_call", .glob), ("Raised", .glob)]) (by kernel_rfl) (by kernel_rfl) ?_
  walk_at "m r0"
  · with_reducible apply xs_any
    · with_reducible apply x_try_ok
      · rfl
      · kernel_rfl
      · walk_at "m ev"
    with_reducible exact ct_ret
  rfl
theorem d_heard_err {nm : Str} (hc : callP D0 k "_law_call" [.val (.str nm), .val W] p = .err e p) : callP D0 (k + 1) "_law_heard" [.val (.str nm), .val W] p = .ok (.tuple [.str "raised", .int 1, .str e.msg, e.code]) p := by
  refine call_run (rec := recL 44) (ρ := [("name", .val (.str nm)), ("words", .val W), ("fault", .unb), ("_law_call", .glob), ("Raised", .glob)]) (by kernel_rfl) (by kernel_rfl) ?_
  walk_at "m r0"
  · with_reducible apply xs_any
    · with_reducible apply x_try_err
      · rfl
      · kernel_rfl
      · with_reducible apply v_tuple_err
        with_reducible apply es_err
        · rfl
        · rfl
        · walk_at "m ev"
        · walk_at "m er"
    with_reducible exact ct_ret
  rfl
end
end

section
theorem for_allN {α : Type} {bd : PyData → Loc → Option Int → Res (Fl × Loc)} {g : α → PyData} {R : Nat → Loc → Option Int → Prop} {N : Nat} : ∀ (l : List α) (j : Nat) (ρ : Loc) (p : Option Int), j + l.length = N → (∀ a ∈ l, ∀ j ρ p, j < N → R j ρ p → ∃ ρ' p', bd (g a) ρ p = .ok (.next, ρ') p' ∧ R (j + 1) ρ' p') → R j ρ p → ∃ ρ' p', forP bd (l.map g) ρ p = .ok (.next, ρ') p' ∧ R N ρ' p'
  | [], j, ρ, p, hN, _, h => ⟨ρ, p, rfl, by rw [← hN]; exact h⟩
  | a :: r, j, ρ, p, hN, hn, h => by
    rw [List.length_cons] at hN
    obtain ⟨ρ1, p1, e, h1⟩ := hn a (.head _) j ρ p (by lia) h
    obtain ⟨ρ2, p2, e2, h2⟩ := for_allN r (j + 1) ρ1 p1 (by lia) (fun a m => hn a (.tail _ m)) h1
    exact ⟨ρ2, p2, by rw [List.map_cons, f_cons e e2], h2⟩
theorem min63 : (-(2 ^ 63) : Int) ≤ -9223372036854775808 := by decide
theorem rangeP_any {n : Int} (h0 : -9223372036854775808 ≤ n) (h1 : n ≤ 1000) : rangeP [.int n] = some ((List.range n.toNat).map fun (k : Nat) => PyData.int (0 + (k : Int))) :=
  show only (decide (n ≤ 100000) && decide (-(2 ^ 63) ≤ n)) _ = _ from on (Bool.and_eq_true_iff.mpr ⟨decide_eq_true (Int.le_trans h1 (by decide)), decide_eq_true (Int.le_trans min63 h0)⟩) rfl
theorem rangeP_up {n : Int} (h0 : 0 ≤ n) (h1 : n ≤ 1000) : rangeP [.int n] = some ((List.range n.toNat).map fun (k : Nat) => PyData.int (0 + (k : Int))) := rangeP_any (Int.le_trans (by decide) h0) h1
theorem rangeP_two {a b : Int} (h0 : 0 ≤ a) (h1 : a ≤ 1000) (h2 : 0 ≤ b) (h3 : b ≤ 1000) : rangeP [.int a, .int b] = some ((List.range (b - a).toNat).map fun (k : Nat) => PyData.int (a + (k : Int))) := by
  show only (decide (0 ≤ a) && decide (a ≤ 100000) && decide (b ≤ 100000) && decide (-(2 ^ 63) ≤ b)) _ = _
  exact on (by rw [decide_eq_true h0, decide_eq_true (Int.le_trans h1 (by decide)), decide_eq_true (Int.le_trans h3 (by decide)), decide_eq_true (Int.le_trans min63 (Int.le_trans (by decide) h2))]; rfl) rfl
noncomputable def alpha : List Nat := [97, 98, 99, 100, 32, 10, 233]
noncomputable def Good (r : List Nat) : Prop := r.length ≤ 7 ∧ ∀ u ∈ r, u ∈ alpha
theorem alpha_str : Str.ofString "abcd \né" = mk alpha := by decide +kernel
theorem alpha_at {z : Int} (h : 0 ≤ z ∧ z < 7) : subP (.str (Str.ofString "abcd \né")) (.int z) = some (.str (mk [alpha.getD z.toNat 0])) := by
  rw [alpha_str]; exact o_at h.1 ⟨by show z < ((7 : Nat) : Int); omega, by decide⟩
theorem alpha_mem {z : Int} (h : 0 ≤ z ∧ z < 7) : alpha.getD z.toNat 0 ∈ alpha := by
  have : z.toNat < 7 := by lia
  generalize z.toNat = m at this
  have key : ∀ m, m < 7 → alpha.getD m 0 ∈ alpha := by decide
  exact key m this
theorem alpha_index : ∀ u ∈ alpha, ∃ i : Int, methodP (.str (Str.ofString "abcd \né")) ("index" : Str) [.str (mk [u])] = some (.int i) := by
  intro u hu
  simp only [alpha, List.mem_cons, List.not_mem_nil, or_false] at hu
  rcases hu with rfl | rfl | rfl | rfl | rfl | rfl | rfl
  · exact ⟨0, by kernel_rfl⟩
  · exact ⟨1, by kernel_rfl⟩
  · exact ⟨2, by kernel_rfl⟩
  · exact ⟨3, by kernel_rfl⟩
  · exact ⟨4, by kernel_rfl⟩
  · exact ⟨5, by kernel_rfl⟩
  · exact ⟨6, by kernel_rfl⟩
noncomputable def tuL (T r : List Nat) (n : Int) (pl ol : LV) : Loc := [("told", .val (.str (mk T))), ("pen", .pen), ("signs", .val (.str (Str.ofString "abcd \né"))), ("size", .val (.int n)), ("made", .val (.str (mk r))), ("place", pl), ("old", ol), ("len", .glob), ("_law_draw", .glob), ("range", .glob)]
section
variable {Φ : Res PyData → Prop} {C : CallP} {n : Nat} {ρ ρ1 : Loc} {p p1 p2 : Option Int} {f : Str} {d : PyData} {ex : Loc → Option Int → Stmt → Res (Fl × Loc)} {s : Stmt} {ss s1 : List Stmt} {X : Exc} {q : Pos}
theorem call_runP {D : Str → Option DefRec} {k : Nat} {rec : DefRec} {args : List LV} (hD : D f = some rec) (hE : entryL rec args = some ρ) (h : Φ ((exsP (exP (callP D k) 60) rec.body ρ p).bind retR)) : Φ (callP D (k + 1) f args p) := by
  rw [call_run hD hE rfl]; exact h
theorem P_next (h : ex ρ p s = .ok (.next, ρ1) p1) (k : Φ ((exsP ex ss ρ1 p1).bind retR)) : Φ ((exsP ex (s :: ss) ρ p).bind retR) := by rw [xs_next h rfl]; exact k
theorem P_ret (h : ex ρ p s = .ok (.ret d, ρ1) p1) (k : Φ (.ok d p1)) : Φ ((exsP ex (s :: ss) ρ p).bind retR) := by rw [xs_ret h]; exact k
theorem P_for {tg it : Expr} {items : List PyData} {R : Loc → Option Int → Prop} (hi : forItems (isTup tg) (evP n C false ρ) ρ p it = .ok items p1) (hf : ∃ ρ' p', forP (fun d ρ p => (Res.ofOpt p (bindP tg d ρ)).bind fun ρ p => exsP (exP C n) s1 ρ p) items ρ p1 = .ok (.next, ρ') p' ∧ R ρ' p')
    (k : ∀ ρ' p', R ρ' p' → Φ ((exsP (exP C (n + 1)) ss ρ' p').bind retR)) : Φ ((exsP (exP C (n + 1)) (.For tg it s1 [] q :: ss) ρ p).bind retR) := by
  obtain ⟨ρ', p', e, hR⟩ := hf
  exact P_next (x_for hi e) (k ρ' p' hR)
theorem P_forN {α : Type} {g : α → PyData} {l : List α} {tg it : Expr} {R : Nat → Loc → Option Int → Prop} (hi : forItems (isTup tg) (evP n C false ρ) ρ p it = .ok (l.map g) p1) (h0 : R 0 ρ p1)
    (hn : ∀ a ∈ l, ∀ j ρ p, j < l.length → R j ρ p → ∃ ρ' p', (Res.ofOpt p (bindP tg (g a) ρ)).bind (fun ρ p => exsP (exP C n) s1 ρ p) = .ok (.next, ρ') p' ∧ R (j + 1) ρ' p')
    (k : ∀ ρ' p', R l.length ρ' p' → Φ ((exsP (exP C (n + 1)) ss ρ' p').bind retR)) : Φ ((exsP (exP C (n + 1)) (.For tg it s1 [] q :: ss) ρ p).bind retR) := by
  obtain ⟨ρ', p', e, hR⟩ := for_allN (bd := fun d ρ p => (Res.ofOpt p (bindP tg d ρ)).bind fun ρ p => exsP (exP C n) s1 ρ p) (g := g) l 0 ρ p1 (Nat.zero_add _) hn h0
  exact P_next (x_for hi e) (k ρ' p' hR)
end
noncomputable def TuP (R : Res PyData) : Prop := ∃ r i', R = .ok (.str (mk r)) (some i') ∧ Good r
theorem d_turned {k : Nat} {T : List Nat} (hT : Good T) (i : Int) : TuP (callP D0 (k + 2) "_law_turned" [.val (.str (mk T)), .pen] (some i)) := by
  have hsz : T.length ≤ sizeLine := by have := sizeLine_big; have := hT.1; omega
  have hT7 := hT.1
  have d8 : callP D0 (k + 1) "_law_draw" [.pen, .val (.int 8)] (some i) = .ok (.int (i.fmod 8)) (some (i.fdiv 8)) := d_draw (by decide) (by decide)
  have om : binP .Mod (.int ((T.length : Int) + i.fmod 8)) (.int 8) = some (.int (((T.length : Int) + i.fmod 8).fmod 8)) := o_mod_int (by decide)
  generalize hn : ((T.length : Int) + i.fmod 8).fmod 8 = n at om
  have hn0 : 0 ≤ n ∧ n < 8 := by rw [← hn]; exact ⟨Int.fmod_nonneg_of_pos _ (by decide), Int.fmod_lt_of_pos _ (by decide)⟩
  have hr := rangeP_up (n := n) hn0.1 (by omega)
  refine call_runP (rec := recL 40) (ρ := [("told", .val (.str (mk T))), ("pen", .pen), ("signs", .unb), ("size", .unb), ("made", .unb), ("place", .unb), ("old", .unb), ("len", .glob), ("_law_draw", .glob), ("range", .glob)]) (by kernel_rfl) (by kernel_rfl) ?_
  (conv => arg 1; arg 1; arg 2; whnf)
  apply P_next
  · walk_at "m x"
  apply P_next
  · walk_at "m x"
  apply P_next (ρ1 := tuL T [] n .unb .unb) (p1 := some (i.fdiv 8))
  · apply Eq.trans
    walk_at "m x"
    rw [nil_eq]; rfl
  unfold tuL
  apply P_forN (R := fun j ρ p => ∃ r pl ol i', ρ = tuL T r n (olv pl) (olv ol) ∧ p = some i' ∧ r.length = j ∧ ∀ u ∈ r, u ∈ alpha)
  · walk_at "m items"
  · exact ⟨[], none, none, _, rfl, rfl, rfl, fun u h => nomatch h⟩
  · rintro j hj jj ρ p hjj ⟨r, pl, ol, i', rfl, rfl, hrl, hra⟩
    rw [List.length_range] at hjj
    have hj7 : j < 7 ∧ (j : Int) < n := by have := List.mem_range.mp hj; omega
    have drw : callP D0 (k + 1) "_law_draw" [.pen, .val (.int 7)] (some i') = .ok (.int (i'.fmod 7)) (some (i'.fdiv 7)) := d_draw (by decide) (by decide)
    have mod7 : ∀ o : Int, binP .Mod (.int (o + i'.fmod 7)) (.int 7) = some (.int ((o + i'.fmod 7).fmod 7)) := fun o => o_mod_int (by decide)
    have z7 : ∀ o : Int, 0 ≤ (o + i'.fmod 7).fmod 7 ∧ (o + i'.fmod 7).fmod 7 < 7 := fun o => ⟨Int.fmod_nonneg_of_pos _ (by decide), Int.fmod_lt_of_pos _ (by decide)⟩
    have sizes : (r ++ [0]).length ≤ sizeLine := by have := sizeLine_big; simp only [List.length_append, List.length_cons, List.length_nil]; omega
    unfold tuL
    by_cases hjT : j < T.length
    · have ha : subP (.str (mk T)) (.int (0 + (j : Int))) = some (.str (mk [T.getD j 0])) := by
        rw [o_at (i := 0 + (j : Int)) (by omega) ⟨by omega, by omega⟩, show (0 + (j : Int)).toNat = j from by omega]
      have hmem : T.getD j 0 ∈ alpha := by
        have : T.getD j 0 = T[j] := by simp [hjT]
        rw [this]; exact hT.2 _ (List.getElem_mem hjT)
      obtain ⟨o, ho⟩ := alpha_index _ hmem
      have e7 := mod7 o
      have e8 := alpha_at (z7 o)
      refine ⟨tuL T (r ++ [alpha.getD ((o + i'.fmod 7).fmod 7).toNat 0]) n (olv (some (.int (0 + (j : Int))))) (olv (some (.int o))), some (i'.fdiv 7), ?_, r ++ [_], _, _, _, rfl, rfl, by simp only [List.length_append, List.length_cons, List.length_nil, hrl], ?_⟩
      · apply Eq.trans
        walk_at "m turn"
        rfl
      · intro u hu
        rcases List.mem_append.mp hu with h | h
        · exact hra u h
        · rw [List.mem_singleton.mp h]; exact alpha_mem (z7 o)
    · have e7 := mod7 0
      have e8 := alpha_at (z7 0)
      refine ⟨tuL T (r ++ [alpha.getD ((0 + i'.fmod 7).fmod 7).toNat 0]) n (olv (some (.int (0 + (j : Int))))) (olv (some (.int 0))), some (i'.fdiv 7), ?_, r ++ [_], _, _, _, rfl, rfl, by simp only [List.length_append, List.length_cons, List.length_nil, hrl], ?_⟩
      · apply Eq.trans
        walk_at "m turn"
        rfl
      · intro u hu
        rcases List.mem_append.mp hu with h | h
        · exact hra u h
        · rw [List.mem_singleton.mp h]; exact alpha_mem (z7 0)
  · rintro ρ' p' ⟨r, pl, ol, i', rfl, rfl, hrl, hra⟩
    rw [List.length_range] at hrl
    unfold tuL
    apply P_ret
    · walk_at "m x"
    exact ⟨r, i', rfl, by omega, hra⟩
end

section
noncomputable def kindF (l : List Nat) : Option (Bool × Int) := match wholeF l with
  | some v => some (false, v)
  | none => cond (Txt.startswith (mk l) "end") (cond (decide (mk l = ("end" : Str))) (some (true, 0)) ((movedF 0 (l.drop 3)).map fun d => (true, d))) (match wholeF (l.take (iAt l)) with
    | some b => (movedF b (l.drop (iAt l))).map fun v => (false, v)
    | none => none)
theorem moved_shift (b : Int) (l : List Nat) : movedF b l = (movedF 0 l).map fun d => b + d := by
  cases l with
  | nil => rfl
  | cons c r =>
    simp only [movedF]
    cases digitsF r 10 with
    | none => rfl
    | some v =>
      by_cases h1 : c = 43
      · simp [h1]
      · by_cases h2 : c = 45
        · simp [h2]; lia
        · simp [h1, h2]
theorem index_kind (l : List Nat) (last : Int) : indexF l last = (kindF l).map fun q => cond q.1 (last + q.2) q.2 := by
  unfold indexF iX kindF
  cases wholeF l with
  | some v => rfl
  | none =>
    cases Txt.startswith (mk l) "end" with
    | true =>
      simp only [cond_true]
      cases decide (mk l = ("end" : Str)) with
      | true => simp
      | false =>
        simp only [cond_false]
        rw [moved_shift]
        cases movedF 0 (l.drop 3) with
        | none => rfl
        | some v => rfl
    | false =>
      simp only [cond_false]
      cases wholeF (l.take (iAt l)) with
      | none => rfl
      | some b =>
        simp only
        cases movedF b (l.drop (iAt l)) with
        | none => rfl
        | some v => rfl
noncomputable def farI (n : Int) : Bool := decide (n < -9223372036854775808) || decide (n ≥ 9223372036854775808)
noncomputable def chkW (w : Str) (e : Bool) (v : Option Int) (h : Bool) : Bool :=
  decide (w.cps.toList.length < 100) && w.cps.toList.all (fun u => decide (u < 0x110000)) && decide (kindF w.cps.toList = v.map fun x => (e, x)) &&
  cond h (decide (wholeF w.cps.toList = v) && !e && (match v with | some n => cond (farI n) (!decide (wideF n = n)) (decide (wideF n = n) && decide (n ≤ 900)) | none => false)) (decide (wholeF w.cps.toList = none))
structure IxF (w : Str) (e : Bool) (v : Option Int) (h : Bool) : Prop where
  ok : ∀ x, v = some x → IxOk w fun last => cond e (last + x) x
  err : v = none → IxErr w
  wok : h = true → ∃ n, v = some n ∧ e = false ∧ (farI n = true → WdErr w ⟨whyW, codeW whyW⟩) ∧ (farI n = false → WdOk w n ∧ n ≤ 900)
  werr : h = false → WdErr w ⟨wholeMsg w, codeN⟩
  strOk : PyData.strOk w = true
  len : w.length < 100
theorem chk_sound {w : Str} {e : Bool} {v : Option Int} {h : Bool} (c : chkW w e v h = true) : IxF w e v h := by
  unfold chkW at c
  simp only [Bool.and_eq_true, decide_eq_true_eq, List.all_eq_true] at c
  obtain ⟨⟨⟨c1, c2⟩, c3⟩, c4⟩ := c
  obtain ⟨l, rfl⟩ : ∃ l, w = mk l := ⟨_, mk_toList w⟩
  have el : (mk l).cps.toList = l := by simp [mk]
  rw [el] at c1 c2 c3 c4
  have hs : l.length < 1000 := by omega
  refine ⟨?_, ?_, ?_, ?_, ?_, ?_⟩
  · rintro x rfl k p last
    rw [d_index_of hs c2]
    unfold indexR
    rw [index_kind, c3]
    simp only [Option.map_some]
  · rintro rfl k p last
    rw [d_index_of hs c2]
    unfold indexR
    rw [index_kind, c3]
    simp only [Option.map_none]
    rfl
  · rintro rfl
    simp only [cond_true, Bool.and_eq_true, decide_eq_true_eq] at c4
    obtain ⟨⟨c5, c6⟩, c7⟩ := c4
    cases v with
    | none => cases c7
    | some n =>
      refine ⟨n, rfl, by simpa using c6, fun hf k p => ?_, fun hf => ?_⟩
      · simp only [hf, cond_true] at c7
        have c8 : ¬ wideF n = n := by simpa using c7
        rw [d_need_wide hs c2]
        unfold needWideF
        rw [c5]
        simp only [if_neg c8]
      · simp only [hf, cond_false, Bool.and_eq_true, decide_eq_true_eq] at c7
        refine ⟨fun k p => ?_, c7.2⟩
        rw [d_need_wide hs c2]
        unfold needWideF
        rw [c5]
        simp only [if_pos c7.1]
  · rintro rfl k p
    simp only [cond_false, decide_eq_true_eq] at c4
    rw [d_need_wide hs c2]
    unfold needWideF
    rw [c4]
  · unfold PyData.strOk
    rw [Array.all_eq_true']
    intro u hu
    have := c2 u (by rw [← el]; exact Array.mem_toList_iff.mpr hu)
    exact decide_eq_true this
  · rw [mk_length]; exact c1
end

section
/-! an index word: what is behind the three draws, run through for all forms and numbers -/
noncomputable def idxT (w : Str) (e : Bool) (v : Option Int) (h : Bool) : PyData := .tuple [.str w, .bool e, optI v, .bool h]
noncomputable def IdP (R : Res PyData) : Prop := ∃ i' w e v h, R = .ok (idxT w e v h) (some i') ∧ IxF w e v h
noncomputable def ixL (told : PyData) (f n m : Int) : Loc := [("told", .val told), ("pen", .pen), ("form", .val (.int f)), ("n", .val (.int n)), ("m", .val (.int m)), ("mark", .unb), ("_law_draw", .glob), ("str", .glob), ("_law_marked", .glob), ("abs", .glob)]
noncomputable def ixRest (k : Nat) (told : PyData) (f n m i : Int) : Res PyData := (exsP (exP (callP D0 (k + 1)) 60) ((recL 42).body.drop 3) (ixL told f n m) (some i)).bind retR
theorem ix_drawn {k : Nat} (a b c i : Int) : callP D0 (k + 2) "_law_index" [.val (.tuple [.int a, .int b, .int c]), .pen] (some i) =
    ixRest k (.tuple [.int a, .int b, .int c]) ((a + i.fmod 10).fmod 10) ((b + 3 + (i.fdiv 10).fmod 16).fmod 16 - 3) ((c + ((i.fdiv 10).fdiv 16).fmod 16).fmod 16) (((i.fdiv 10).fdiv 16).fdiv 16) := by kernel_rfl
noncomputable abbrev Wd := Str × Bool × Option Int × Bool
noncomputable def digs (b : Nat) (up : Nat) : Nat → Nat → List Nat → List Nat
  | 0, _, acc => acc
  | k + 1, n, acc => match Nat.beq (n / b) 0 with
    | true => (cond (Nat.blt (n % b) 10) (48 + n % b) (up + n % b)) :: acc
    | false => digs b up k (n / b) ((cond (Nat.blt (n % b) 10) (48 + n % b) (up + n % b)) :: acc)
noncomputable def decN (n : Nat) : List Nat := digs 10 87 40 n []
noncomputable def negI : Int → Bool
  | .ofNat _ => false
  | .negSucc _ => true
noncomputable def decI (n : Int) : List Nat := cond (negI n) (45 :: decN n.natAbs) (decN n.natAbs)
noncomputable def badW : List Str := ["", "x", "end-", "1+", "1.5", "ende", "--1", "0x", "+", "2a", "end 1", "1 +2"]
noncomputable def wd9 (n : Int) (M : Nat) : Int := ([9223372036854775808, -9223372036854775808, 18446744073709551616 + n, -9223372036854775809] : List Int).getD M 0
/-- the word of a form and its two numbers -/
noncomputable def wdF (n : Int) (M : Nat) : Nat → Wd
  | 0 => (mk (decI n), false, some n, true)
  | 1 => ("end", true, some 0, false)
  | 2 => (mk (101 :: 110 :: 100 :: 43 :: decN M), true, some (M : Int), false)
  | 3 => (mk (101 :: 110 :: 100 :: 45 :: decN M), true, some (-(M : Int)), false)
  | 4 => (mk (decI n ++ 43 :: decN M), false, some (n + (M : Int)), false)
  | 5 => (mk (decI n ++ 45 :: decN M), false, some (n + -(M : Int)), false)
  | 6 => (mk (cond (negI n) [45] [] ++ 48 :: ([120, 79, 98, 68, 88, 111, 66, 100].getD M 0) :: digs ([16, 8, 2, 10].getD (M % 4) 0) (cond (Nat.blt (([120, 79, 98, 68, 88, 111, 66, 100] : List Nat).getD M 0) 97) 55 87) 40 n.natAbs []), false, some n, true)
  | 7 => (mk (32 :: cond (negI n) 45 43 :: 48 :: 48 :: decN n.natAbs ++ [10]), false, some n, true)
  | 8 => (badW.getD M "", false, none, false)
  | _ => (mk (decI (wd9 n M)), false, some (wd9 n M), true)
noncomputable def wd (F N M : Nat) : Wd := wdF ((N : Int) - 3) M F
noncomputable def tw (w : Wd) : PyData := idxT w.1 w.2.1 w.2.2.1 w.2.2.2
noncomputable def chkT (w : Wd) : Bool := chkW w.1 w.2.1 w.2.2.1 w.2.2.2
noncomputable def mp {α β : Type} (f : α → β) : List α → List β
  | [] => []
  | a :: r => f a :: mp f r
theorem mp_eq {α β : Type} {f g : α → β} {l : List α} : List.map f l = mp g l → ∀ a ∈ l, f a = g a := by
  induction l with
  | nil => exact fun _ a m => nomatch m
  | cons b r ih =>
    intro h a m
    have z := List.cons.inj h
    cases m with
    | head => exact z.1
    | tail _ m => exact ih z.2 a m
noncomputable def fT (k : Nat) (told : PyData) (i F : Int) (t : Nat) : Res PyData := ixRest k told F (((t / 16 : Nat) : Int) - 3) ((t % 16 : Nat) : Int) i
noncomputable def gT (i : Int) (F q t : Nat) : Res PyData := .ok (tw (wd F (t / 16) (t % 16 % q))) (some i)
noncomputable def hT (F t : Nat) : Bool := chkT (wd F (t / 16) (t % 16))
theorem quart {i : Nat} {P : Nat → Prop} (hi : i < 256) (h : ∀ s ∈ [0, 64, 128, 192], ∀ j ∈ List.range' s 64, P j) : P i := by
  have d := Nat.div_add_mod i 64
  have m : i ∈ List.range' (64 * (i / 64)) 64 := List.mem_range'_1.mpr ⟨Nat.mul_div_le i 64, Nat.lt_mul_div_succ i (by decide)⟩
  have b : i / 64 < 4 := Nat.div_lt_of_lt_mul hi
  refine h (64 * (i / 64)) ?_ i m
  generalize i / 64 = c at b
  rcases c with _ | _ | _ | _ | c
  · exact .head _
  · exact .tail _ (.head _)
  · exact .tail _ (.tail _ (.head _))
  · exact .tail _ (.tail _ (.tail _ (.head _)))
  · exact absurd b (Nat.not_lt.mpr (Nat.le_add_left 4 c))
theorem four {P : Nat → Prop} (a : P 0) (b : P 64) (c : P 128) (d : P 192) : ∀ s ∈ [0, 64, 128, 192], P s := mem_cns a (mem_cns b (mem_cns c (mem_cns d fun _ m => nomatch m)))
section
variable {k : Nat} {told : PyData} {i n m : Int}
theorem t0 : (List.range 16).map (fun (N : Nat) => ixRest k told 0 ((N : Int) - 3) m i) = mp (fun (N : Nat) => .ok (tw (wd 0 N 0)) (some i)) (List.range 16) := by kernel_rfl
theorem t1 : ixRest k told 1 n m i = .ok (tw (wd 1 0 0)) (some i) := by kernel_rfl
theorem t2 : (List.range 16).map (fun (M : Nat) => ixRest k told 2 n (M : Int) i) = mp (fun (M : Nat) => .ok (tw (wd 2 0 M)) (some i)) (List.range 16) := by kernel_rfl
theorem t3 : (List.range 16).map (fun (M : Nat) => ixRest k told 3 n (M : Int) i) = mp (fun (M : Nat) => .ok (tw (wd 3 0 M)) (some i)) (List.range 16) := by kernel_rfl
theorem t4a : (List.range' 0 64).map (fT k told i 4) = mp (gT i 4 16) (List.range' 0 64) := by kernel_rfl
theorem t4b : (List.range' 64 64).map (fT k told i 4) = mp (gT i 4 16) (List.range' 64 64) := by kernel_rfl
theorem t4c : (List.range' 128 64).map (fT k told i 4) = mp (gT i 4 16) (List.range' 128 64) := by kernel_rfl
theorem t4d : (List.range' 192 64).map (fT k told i 4) = mp (gT i 4 16) (List.range' 192 64) := by kernel_rfl
theorem t5a : (List.range' 0 64).map (fT k told i 5) = mp (gT i 5 16) (List.range' 0 64) := by kernel_rfl
theorem t5b : (List.range' 64 64).map (fT k told i 5) = mp (gT i 5 16) (List.range' 64 64) := by kernel_rfl
theorem t5c : (List.range' 128 64).map (fT k told i 5) = mp (gT i 5 16) (List.range' 128 64) := by kernel_rfl
theorem t5d : (List.range' 192 64).map (fT k told i 5) = mp (gT i 5 16) (List.range' 192 64) := by kernel_rfl
theorem t6a : (List.range' 0 64).map (fT k told i 6) = mp (gT i 6 8) (List.range' 0 64) := by kernel_rfl
theorem t6b : (List.range' 64 64).map (fT k told i 6) = mp (gT i 6 8) (List.range' 64 64) := by kernel_rfl
theorem t6c : (List.range' 128 64).map (fT k told i 6) = mp (gT i 6 8) (List.range' 128 64) := by kernel_rfl
theorem t6d : (List.range' 192 64).map (fT k told i 6) = mp (gT i 6 8) (List.range' 192 64) := by kernel_rfl
theorem t7 : (List.range 16).map (fun (N : Nat) => ixRest k told 7 ((N : Int) - 3) m i) = mp (fun (N : Nat) => .ok (tw (wd 7 N 0)) (some i)) (List.range 16) := by kernel_rfl
theorem t8 : (List.range 16).map (fun (M : Nat) => ixRest k told 8 n (M : Int) i) = mp (fun (M : Nat) => .ok (tw (wd 8 0 (M % 12))) (some i)) (List.range 16) := by kernel_rfl
theorem t9a : (List.range' 0 64).map (fT k told i 9) = mp (gT i 9 4) (List.range' 0 64) := by kernel_rfl
theorem t9b : (List.range' 64 64).map (fT k told i 9) = mp (gT i 9 4) (List.range' 64 64) := by kernel_rfl
theorem t9c : (List.range' 128 64).map (fT k told i 9) = mp (gT i 9 4) (List.range' 128 64) := by kernel_rfl
theorem t9d : (List.range' 192 64).map (fT k told i 9) = mp (gT i 9 4) (List.range' 192 64) := by kernel_rfl
end
theorem c0 : ((List.range 16).all fun N => chkT (wd 0 N 0)) = true := by decide +kernel
theorem c1 : chkT (wd 1 0 0) = true := by decide +kernel
theorem c2 : ((List.range 16).all fun M => chkT (wd 2 0 M)) = true := by decide +kernel
theorem c3 : ((List.range 16).all fun M => chkT (wd 3 0 M)) = true := by decide +kernel
theorem c4a : ((List.range' 0 64).all (hT 4)) = true := by decide +kernel
theorem c4b : ((List.range' 64 64).all (hT 4)) = true := by decide +kernel
theorem c4c : ((List.range' 128 64).all (hT 4)) = true := by decide +kernel
theorem c4d : ((List.range' 192 64).all (hT 4)) = true := by decide +kernel
theorem c5a : ((List.range' 0 64).all (hT 5)) = true := by decide +kernel
theorem c5b : ((List.range' 64 64).all (hT 5)) = true := by decide +kernel
theorem c5c : ((List.range' 128 64).all (hT 5)) = true := by decide +kernel
theorem c5d : ((List.range' 192 64).all (hT 5)) = true := by decide +kernel
theorem c6 : ((List.range 128).all fun t => chkT (wd 6 (t / 8) (t % 8))) = true := by decide +kernel
theorem c7 : ((List.range 16).all fun N => chkT (wd 7 N 0)) = true := by decide +kernel
theorem c8 : ((List.range 12).all fun M => chkT (wd 8 0 M)) = true := by decide +kernel
theorem c9 : ((List.range 64).all fun t => chkT (wd 9 (t / 4) (t % 4))) = true := by decide +kernel
theorem pair {a b n : Nat} (hb : b < n) : (n * a + b) / n = a ∧ (n * a + b) % n = b := ⟨by rw [Nat.mul_add_div (Nat.zero_lt_of_lt hb), Nat.div_eq_of_lt hb]; rfl, by rw [Nat.mul_add_mod, Nat.mod_eq_of_lt hb]⟩
theorem pair_lt {a b n c : Nat} (ha : a < c) (hb : b < n) : n * a + b < n * c := Nat.lt_of_lt_of_le (Nat.add_lt_add_left hb _) (Nat.mul_le_mul_left n ha)
theorem allAt {f : Nat → Bool} {n i : Nat} (h : ((List.range n).all f) = true) (hi : i < n) : f i = true := List.all_eq_true.mp h i (List.mem_range.mpr hi)
theorem mapAt {β : Type} {f g : Nat → β} {n i : Nat} (h : (List.range n).map f = mp g (List.range n)) (hi : i < n) : f i = g i := mp_eq h i (List.mem_range.mpr hi)
theorem ix_all {k : Nat} {told : PyData} {i : Int} {N M : Nat} (hN : N < 16) (hM : M < 16) (F : Nat) : F < 10 → ∃ w, ixRest k told (F : Int) ((N : Int) - 3) (M : Int) i = .ok (tw w) (some i) ∧ chkT w = true := by
  have p16 := pair (a := N) hM
  have l16 := pair_lt hN hM
  have h8 := Nat.mod_lt M (show 8 > 0 by decide)
  have h4 := Nat.mod_lt M (show 4 > 0 by decide)
  match F with
  | 0 => exact fun _ => ⟨_, mapAt t0 hN, allAt c0 hN⟩
  | 1 => exact fun _ => ⟨_, t1, c1⟩
  | 2 => exact fun _ => ⟨_, mapAt t2 hM, allAt c2 hM⟩
  | 3 => exact fun _ => ⟨_, mapAt t3 hM, allAt c3 hM⟩
  | 4 => have a := quart (P := fun j => fT k told i 4 j = gT i 4 16 j) l16 (four (mp_eq t4a) (mp_eq t4b) (mp_eq t4c) (mp_eq t4d)); have b := quart (P := fun j => hT 4 j = true) l16 (four (List.all_eq_true.mp c4a) (List.all_eq_true.mp c4b) (List.all_eq_true.mp c4c) (List.all_eq_true.mp c4d)); unfold fT gT at a; unfold hT at b; rw [p16.1, p16.2] at a b; rw [Nat.mod_eq_of_lt hM] at a; exact fun _ => ⟨_, a, b⟩
  | 5 => have a := quart (P := fun j => fT k told i 5 j = gT i 5 16 j) l16 (four (mp_eq t5a) (mp_eq t5b) (mp_eq t5c) (mp_eq t5d)); have b := quart (P := fun j => hT 5 j = true) l16 (four (List.all_eq_true.mp c5a) (List.all_eq_true.mp c5b) (List.all_eq_true.mp c5c) (List.all_eq_true.mp c5d)); unfold fT gT at a; unfold hT at b; rw [p16.1, p16.2] at a b; rw [Nat.mod_eq_of_lt hM] at a; exact fun _ => ⟨_, a, b⟩
  | 6 => have a := quart (P := fun j => fT k told i 6 j = gT i 6 8 j) l16 (four (mp_eq t6a) (mp_eq t6b) (mp_eq t6c) (mp_eq t6d)); unfold fT gT at a; have b := allAt c6 (pair_lt hN h8); rw [p16.1, p16.2] at a; rw [(pair h8).1, (pair h8).2] at b; exact fun _ => ⟨_, a, b⟩
  | 7 => exact fun _ => ⟨_, mapAt t7 hN, allAt c7 hN⟩
  | 8 => exact fun _ => ⟨_, mapAt t8 hM, allAt c8 (Nat.mod_lt M (show 12 > 0 by decide))⟩
  | 9 => have a := quart (P := fun j => fT k told i 9 j = gT i 9 4 j) l16 (four (mp_eq t9a) (mp_eq t9b) (mp_eq t9c) (mp_eq t9d)); unfold fT gT at a; have b := allAt c9 (pair_lt hN h4); rw [p16.1, p16.2] at a; rw [(pair h4).1, (pair h4).2] at b; exact fun _ => ⟨_, a, b⟩
  | F + 10 => exact fun h => absurd h (Nat.not_lt.mpr (Nat.le_add_left 10 F))
theorem fmod_nat {a m : Int} (h : 0 < m) : ∃ r : Nat, a.fmod m = (r : Int) ∧ (r : Int) < m := by
  obtain ⟨r, hr⟩ := Int.eq_ofNat_of_zero_le (Int.fmod_nonneg_of_pos a h)
  exact ⟨r, hr, hr ▸ Int.fmod_lt_of_pos a h⟩
theorem d_law_index {k : Nat} (a b c i : Int) : IdP (callP D0 (k + 2) "_law_index" [.val (.tuple [.int a, .int b, .int c]), .pen] (some i)) := by
  rw [ix_drawn]
  obtain ⟨F, hF, lF⟩ := fmod_nat (a := a + i.fmod 10) (show (0 : Int) < 10 by decide)
  obtain ⟨N, hN, lN⟩ := fmod_nat (a := b + 3 + (i.fdiv 10).fmod 16) (show (0 : Int) < 16 by decide)
  obtain ⟨M, hM, lM⟩ := fmod_nat (a := c + ((i.fdiv 10).fdiv 16).fmod 16) (show (0 : Int) < 16 by decide)
  rw [hF, hN, hM]
  obtain ⟨w, e, q⟩ := ix_all (k := k) (told := .tuple [.int a, .int b, .int c]) (i := ((i.fdiv 10).fdiv 16).fdiv 16) (Int.ofNat_lt.mp lN) (Int.ofNat_lt.mp lM) F (Int.ofNat_lt.mp lF)
  exact ⟨_, _, _, _, _, e, chk_sound q⟩
end

section
/-! the law's own reckoning: comprehensions over places of a text -/
theorem cp_map' {ev : Bool → Loc → Option Int → Expr → Res PyData} {ev0 : Option Int → Expr → Res PyData} {elt it : Expr} {ifs : List Expr} {scope : Scope} {x : Str} {q : Pos} {ρ : Loc} {p p1 : Option Int} {α : Type} {g : α → PyData} {l : List α} {h : α → Option PyData} {ρc : PyData → Loc}
    (hc : compOk scope x ρ = true) (hi : iterP ev0 ρ p it = .ok (l.map g) p1) (hs : (l.map g).all scalar = true) (hl : (l.map g).length ≤ sizeLine) (hρ : ∀ d, compLoc scope x d ρ = ρc d) (hg : ∀ a ∈ l, compBody ev elt ifs (ρc (g a)) = .ok (h a) none) :
    compP ev ev0 ρ p elt [⟨.Name x q, it, ifs, 0⟩] scope = .ok (.list (l.filterMap h)) p1 := by
  have key : compItems (bodyAt ev ρ elt scope x ifs) (l.map g) = .ok (l.filterMap h) none := by
    clear hi hs hl
    induction l with
    | nil => rfl
    | cons a r ih => exact bd (show compBody ev elt ifs (compLoc scope x (g a) ρ) = _ by rw [hρ]; exact hg a (.head _)) (bd (ih fun d m => hg d (.tail _ m)) (by rw [List.filterMap_cons]; cases h a <;> rfl))
  exact os (show asGen [⟨.Name x q, it, ifs, 0⟩] = some (x, q, it, ifs) from rfl) (wh hc (bd hi (wh (by rw [hs, decide_eq_true hl]; rfl) (bd (cl key) rfl))))
theorem cb_any {ev : Bool → Loc → Option Int → Expr → Res PyData} {elt : Expr} {ifs : List Expr} {c : Bool} {ρ : Loc} {d : PyData} (h : boolP (ev true ρ) .And ifs none = .ok (.bool c) none) (he : ev false ρ none elt = .ok d none) (hs : scalar d = true) : compBody ev elt ifs ρ = .ok (cond c (some d) none) none := by
  cases c
  · exact cb_none h rfl
  · exact cb_some h rfl he hs
theorem scal_ints {l : List Nat} {z : Int} : (l.map fun (k : Nat) => PyData.int (z + (k : Int))).all scalar = true := by
  rw [List.all_eq_true]; intro d hd
  obtain ⟨k, _, rfl⟩ := List.mem_map.mp hd; rfl
theorem scal_int {l : List Int} : (l.map PyData.int).all scalar = true := by
  rw [List.all_eq_true]; intro d hd
  obtain ⟨k, _, rfl⟩ := List.mem_map.mp hd; rfl
theorem fm_int {n : Nat} {q : Nat → Bool} : (List.range n).filterMap (fun k => cond (q k) (some (PyData.int (0 + (k : Int)))) none) = (((List.range n).filter q).map fun (k : Nat) => (k : Int)).map PyData.int := by
  induction n with
  | zero => rfl
  | succ n ih =>
    rw [List.range_succ, List.filterMap_append, List.filter_append, List.map_append, List.map_append, ih]
    congr 1
    cases h : q n <;> simp [h]
theorem fm_filter {l : List Int} {q : Int → Bool} : l.filterMap (fun k => cond (q k) (some (PyData.int k)) none) = (l.filter q).map PyData.int := by
  induction l with
  | nil => rfl
  | cons a r ih =>
    rw [List.filterMap_cons, List.filter_cons]
    cases h : q a <;> simp [ih]
theorem depth_ints (l : List Int) : PyData.depthAll (l.map PyData.int) ≤ 1 := by
  induction l with
  | nil => simp [PyData.depthAll]
  | cons a r ih => simp only [List.map_cons, PyData.depthAll, PyData.depth]; lia
theorem lay_ints (l : List Int) : PyData.canLayAll0 (l.map PyData.int) = true := by
  induction l with
  | nil => rfl
  | cons a r ih => simp only [List.map_cons, PyData.canLayAll0, PyData.canLay0, ih, Bool.and_self]
theorem o_eq_lnil {l : List Int} : cmpP .Eq (.list (l.map PyData.int)) (.list []) = some l.isEmpty := by
  have e : eqOk (.list (l.map PyData.int)) (.list []) = true := by
    unfold eqOk
    have a : PyData.canLay0 (.list (l.map PyData.int)) = true := by rw [PyData.canLay0]; exact lay_ints l
    rw [a, show PyData.canLay0 (.list []) = true by kernel_rfl]
    exact decide_eq_true (Nat.le_trans (Nat.min_le_right _ _) (show PyData.depth (.list []) ≤ 64 by decide +kernel))
  exact on e (by cases l <;> simp [PyData.eqv, PyData.eqvAll])
theorem o_ne_lnil {l : List Int} : cmpP .NotEq (.list (l.map PyData.int)) (.list []) = some (!l.isEmpty) := congrArg (Option.map not) o_eq_lnil
theorem sub_neg1 {xs : List PyData} {d : PyData} (h : xs.length < 1000) (hd : xs.getLast? = some d) : subP (.list xs) (.int (-1)) = some d := by
  have hl : 0 < xs.length := List.length_pos_iff.mpr (by rintro rfl; cases hd)
  have e : seqIndex? (-1) xs.length = some (xs.length - 1) := by
    obtain ⟨m, hm⟩ := Nat.exists_eq_add_of_lt hl
    show (if (decide ((0 : Int) ≤ -1 + xs.length) && decide (-1 + (xs.length : Int) < xs.length)) = true then some (-1 + (xs.length : Int)).toNat else none) = _
    rw [show -1 + (xs.length : Int) = (m : Int) by lia, if_pos (Bool.and_eq_true_iff.mpr ⟨decide_eq_true (Int.natCast_nonneg m), decide_eq_true (by lia)⟩), Int.toNat_natCast]
    exact congrArg some (by lia)
  unfold subP
  show (intOf (.int (-1))).bind (seqAt xs) = some d
  unfold intOf
  rw [Option.bind_some]
  unfold seqAt
  exact on (by decide) (by rw [e, Option.bind_some, ← List.getLast?_eq_getElem?]; exact hd)
/-- the strs glued together -/
theorem join_nil : ∀ l : List (List Nat), Txt.join (mk []) (l.map mk) = mk l.flatten := by
  intro l
  unfold Txt.join
  rw [StrLaws.glued_eq_join]
  induction l with
  | nil => rfl
  | cons x r ih =>
    cases r with
    | nil => show mk x = _; simp
    | cons y s =>
      show mk x ++ mk [] ++ Str.join (mk []) ((y :: s).map mk) = _
      rw [ih, mk_append, mk_append]
      simp
theorem fold_len : ∀ (l : List (List Nat)) (a : Nat), (l.map mk).foldl (fun acc x => acc + x.length + (mk []).length) a = a + (l.map List.length).sum
  | [], a => rfl
  | x :: r, a => by
    rw [List.map_cons, List.foldl_cons, fold_len r, List.map_cons, List.sum_cons, mk_length, mk_length]
    simp only [List.length_nil]; lia
theorem strsOf_mk (l : List (List Nat)) : strsOf (l.map fun x => PyData.str (mk x)) = some (l.map mk) := by
  induction l with
  | nil => rfl
  | cons x r ih =>
    rw [List.map_cons]
    show (strsOf (r.map fun x => PyData.str (mk x))).bind _ = _
    rw [ih]; rfl
theorem o_join {l : List (List Nat)} (h : (l.map List.length).sum ≤ 1000000) : methodP (.str (("" : String) : Str)) ("join" : Str) [.list (l.map fun x => PyData.str (mk x))] = some (.str (mk l.flatten)) := by
  have hj : JoinOk (mk []) (l.map mk) = true := by
    unfold JoinOk Builtin.Str.tooLong
    rw [List.foldl_toArray, fold_len]
    have := sizeLine_big
    simp only [Bool.not_eq_true', decide_eq_false_iff_not]; lia
  rw [nil_eq, show methodP (.str (mk [])) ("join" : Str) [.list (l.map fun x => PyData.str (mk x))] = joinP (mk []) (.list (l.map fun x => PyData.str (mk x))) by kernel_rfl]
  show (strsOf (l.map fun x => PyData.str (mk x))).bind _ = _
  rw [strsOf_mk, Option.bind_some, hj, join_nil]; rfl
end

section
noncomputable def occQ (a t : List Nat) (k : Nat) : Bool := !a.isEmpty && decide (cutF t a k = a)
noncomputable def occF (a t : List Nat) : List Int := ((List.range t.length).filter (occQ a t)).map fun (k : Nat) => (k : Int)
theorem occ_mem {a t : List Nat} {z : Int} (h : z ∈ occF a t) : 0 ≤ z ∧ z < t.length := by
  obtain ⟨k, hk, rfl⟩ := List.mem_map.mp h
  have := List.mem_range.mp (List.mem_filter.mp hk).1
  omega
noncomputable def fL (nm : Str) (a t : List Nat) (pl : List Int) (f : LV) : Loc := [("name", .val (.str nm)), ("needle", .cell (.str (mk a))), ("text", .cell (.str (mk t))), ("places", .cell (.list (pl.map PyData.int))), ("found", f), ("range", .glob), ("len", .glob), ("str", .glob)]
noncomputable def resF : Option Int → Str
  | none => "-1"
  | some k => strI k
local macro_rules | `(tactic| walk_at "m op") => `(tactic| first | with_reducible exact o_eq_lnil | with_reducible exact o_ne_lnil)
noncomputable def seekF (nm : Str) (a t : List Nat) (pl : List Int) : List Int := match pl with
  | [] => occF a t
  | v :: _ => cond (decide (nm = ("first" : Str))) ((occF a t).filter fun k => decide (k ≥ v)) ((occF a t).filter fun k => decide (k + a.length ≤ v + 1))
theorem d_found {k : Nat} {p : Option Int} {nm : Str} {a t : List Nat} {pl : List Int} (ht : t.length < 900) (ha : a.length < 900) (hn : nm = ("first" : Str) ∨ nm = ("last" : Str)) (hp : pl = [] ∨ ∃ v, pl = [v]) :
    callP D0 (k + 1) "_law_found" [.val (.str nm), .val (.str (mk a)), .val (.str (mk t)), .val (.list (pl.map PyData.int))] p = .ok (.str (resF (cond (decide (nm = ("first" : Str))) (seekF nm a t pl).head? (seekF nm a t pl).getLast?))) p := by
  have ht' : t.length < 1000 := Nat.lt_of_lt_of_le ht (by decide)
  have hsz : t.length ≤ sizeLine := sz9 ht'
  have hsa : a.length ≤ sizeLine := sz9 (Nat.lt_of_lt_of_le ha (by decide))
  have hr := rangeP_up (n := (t.length : Int)) (Int.natCast_nonneg _) (Int.ofNat_le.mpr (Nat.le_of_lt ht'))
  refine call_run (rec := recL 45) (ρ := fL nm a t pl .unb) (by kernel_rfl) (by kernel_rfl) ?_
  have hl : (occF a t).length ≤ t.length := by
    unfold occF
    rw [List.length_map]
    exact Nat.le_trans (List.length_filter_le _ _) (Nat.le_of_eq List.length_range)
  have lays := Nat.le_trans hl hsz
  have dF : decide (Str.ofString "first" = Str.ofString "first") = true := decide_eq_true rfl
  have dL : decide (Str.ofString "last" = Str.ofString "first") = false := by decide +kernel
  obtain ⟨S, hS⟩ : ∃ S, seekF nm a t pl = S := ⟨_, rfl⟩
  have hsub : S.Sublist (occF a t) := by
    rw [← hS]
    rcases hp with rfl | ⟨v, rfl⟩
    · exact List.Sublist.refl _
    · unfold seekF
      cases decide (nm = ("first" : Str)) <;> exact List.filter_sublist
  have hlen : S.length < 1000 := Nat.lt_of_le_of_lt (Nat.le_trans hsub.length_le hl) ht'
  have hend : ∀ z, z ∈ S → builtinP ("str" : Str) [.int z] = some (.str (strI z)) := fun z hz => have m := occ_mem (hsub.subset hz); o_str ⟨Int.le_trans (by decide) m.1, Int.lt_trans m.2 (Int.ofNat_lt.mpr ht')⟩
  have hcut : ∀ j : Nat, sliceP (.str (mk t)) (some (0 + (j : Int))) (some (0 + (j : Int) + a.length)) none = some (.str (mk (cutF t a j))) := fun j => cut_at (Int.zero_add _) hsz
  rw [hS]
  (conv => lhs; arg 1; arg 2; whnf)
  apply run_any (rr := .ok (.ret (.str (resF (cond (decide (nm = ("first" : Str))) S.head? S.getLast?))), fL nm a t pl (.val (.list (S.map PyData.int)))) p)
  · apply xs_next (ρ1 := fL nm a t pl (.val (.list ((occF a t).map PyData.int)))) (p1 := p)
    · unfold fL
      apply Eq.trans
      with_reducible apply x_comp
      · kernel_rfl
      · walk_at "m loc"
      · with_reducible apply v_comp
        apply cp_map' (ρc := fun d => [("k", .val d), ("len", .glob), ("needle", .cell (.str (mk a))), ("text", .cell (.str (mk t)))]) (h := fun (j : Nat) => cond (occQ a t j) (some (PyData.int (0 + (j : Int)))) none)
        · kernel_rfl
        · with_reducible apply it_range
          · kernel_rfl
          · walk_at "m lk"
          · walk_at "m evs"
          · exact hr
        · exact scal_ints
        · rw [List.length_map, List.length_range, Int.toNat_natCast]; exact hsz
        · intro d; kernel_rfl
        · intro j hj
          have cj := hcut j
          apply cb_any (c := occQ a t j) (d := PyData.int (0 + (j : Int)))
          · unfold occQ
            rcases nil_or a with ⟨_, e0⟩ | ⟨_, e0, _⟩
            · have e1 : (!a.isEmpty) = false := by rw [e0]; rfl
              rw [e1]
              show _ = Res.ok (PyData.bool false) none
              walk_at "m b"
            · have e1 : (!a.isEmpty) = true := by rw [e0]; rfl
              rw [e1]
              show _ = Res.ok (PyData.bool (decide (cutF t a j = a))) none
              walk_at "m b"
          · walk_at "m ev"
          · rfl
      · walk_at "m set"
      rw [fm_int]; rfl
    apply xs_next (ρ1 := fL nm a t pl (.val (.list ((cond (decide (nm = ("first" : Str))) S (occF a t)).map PyData.int)))) (p1 := p)
    · rcases hp with rfl | ⟨v, rfl⟩
      · have e0 : (!([] : List Int).isEmpty) = false := rfl
        rw [show cond (decide (nm = ("first" : Str))) S (occF a t) = occF a t by rw [← hS]; cases decide (nm = ("first" : Str)) <;> rfl]
        unfold fL
        walk_at "m x"
      · have e0 : (!([v] : List Int).isEmpty) = true := rfl
        have s0 : subP (.list (List.map PyData.int [v])) (.int 0) = some (.int v) := by kernel_rfl
        rcases hn with rfl | rfl
        · have eS : (occF a t).filter (fun k => decide (k ≥ v)) = S := hS
          rw [dF, cond_true]
          unfold fL
          apply Eq.trans
          with_reducible apply x_if
          walk_at "m t"
          with_reducible apply cnd_t
          walk_at "m c"
          with_reducible apply xs_any
          · with_reducible apply x_comp
            · kernel_rfl
            · walk_at "m loc"
            · with_reducible apply v_comp
              apply cp_map' (g := PyData.int) (l := occF a t) (ρc := fun d => [("k", .val d), ("places", .cell (.list (List.map PyData.int [v])))]) (h := fun (j : Int) => cond (decide (j ≥ v)) (some (PyData.int j)) none)
              · kernel_rfl
              · with_reducible apply it_name
                · walk_at "m ev"
                · rfl
              · exact scal_int
              · rw [List.length_map]; exact lays
              · intro d; kernel_rfl
              · intro j hj
                apply cb_any
                · walk_at "m b"
                · walk_at "m ev"
                · rfl
            · walk_at "m set"
          with_reducible apply ct_next
          with_reducible exact xs_nil
          rw [fm_filter, eS]
        · rw [dL, cond_false]
          unfold fL
          walk_at "m x"
    apply xs_next (ρ1 := fL nm a t pl (.val (.list (S.map PyData.int)))) (p1 := p)
    · rcases hp with rfl | ⟨v, rfl⟩
      · have e0 : (!([] : List Int).isEmpty) = false := rfl
        rw [show cond (decide (nm = ("first" : Str))) S (occF a t) = S by rw [← hS]; cases decide (nm = ("first" : Str)) <;> rfl]
        unfold fL
        walk_at "m x"
      · have e0 : (!([v] : List Int).isEmpty) = true := rfl
        have s0 : subP (.list (List.map PyData.int [v])) (.int 0) = some (.int v) := by kernel_rfl
        rcases hn with rfl | rfl
        · rw [dF, cond_true]
          unfold fL
          walk_at "m x"
        · have eS : (occF a t).filter (fun k => decide (k + a.length ≤ v + 1)) = S := by rw [← hS]; unfold seekF; rw [dL]; rfl
          rw [dL, cond_false]
          unfold fL
          apply Eq.trans
          with_reducible apply x_if
          walk_at "m t"
          with_reducible apply cnd_t
          walk_at "m c"
          with_reducible apply xs_any
          · with_reducible apply x_comp
            · kernel_rfl
            · walk_at "m loc"
            · with_reducible apply v_comp
              apply cp_map' (g := PyData.int) (l := occF a t) (ρc := fun d => [("k", .val d), ("len", .glob), ("needle", .cell (.str (mk a))), ("places", .cell (.list (List.map PyData.int [v])))]) (h := fun (j : Int) => cond (decide (j + a.length ≤ v + 1)) (some (PyData.int j)) none)
              · kernel_rfl
              · with_reducible apply it_name
                · walk_at "m ev"
                · rfl
              · exact scal_int
              · rw [List.length_map]; exact lays
              · intro d; kernel_rfl
              · intro j hj
                apply cb_any
                · walk_at "m b"
                · walk_at "m ev"
                · rfl
            · walk_at "m set"
          with_reducible apply ct_next
          with_reducible exact xs_nil
          rw [fm_filter, eS]
    unfold fL
    cases S with
    | nil =>
      have en : ([] : List Int).isEmpty = true := rfl
      rw [show cond (decide (nm = ("first" : Str))) ([] : List Int).head? ([] : List Int).getLast? = none by cases decide (nm = ("first" : Str)) <;> rfl]
      apply Eq.trans
      walk_at "m st"
      rfl
    | cons z r =>
      have en : (z :: r).isEmpty = false := rfl
      rcases hn with rfl | rfl
      · have l1 : (List.map PyData.int (z :: r)).length < 1000000 := by rw [List.length_map]; exact Nat.lt_of_lt_of_le hlen (by decide)
        have g0 : subP (.list (List.map PyData.int (z :: r))) (.int 0) = some (.int z) := o_pick (i := 0) (by decide) ⟨show ((0 : Nat) : Int) < ((List.map PyData.int (z :: r)).length : Int) from Int.ofNat_lt.mpr (Nat.succ_pos _), l1⟩ rfl
        have q0 := hend z (.head _)
        rw [dF]
        apply Eq.trans
        walk_at "m st"
        rfl
      · have l1 : (List.map PyData.int (z :: r)).length < 1000 := by rw [List.length_map]; exact hlen
        obtain ⟨y, hy⟩ : ∃ y, (z :: r).getLast? = some y := ⟨_, List.getLast?_eq_some_getLast (List.cons_ne_nil z r)⟩
        have g1 : subP (.list (List.map PyData.int (z :: r))) (.int (-1)) = some (.int y) := sub_neg1 l1 (by rw [List.getLast?_map, hy]; rfl)
        have q1 := hend y (List.mem_of_getLast? hy)
        rw [dL, cond_false, hy]
        apply Eq.trans
        walk_at "m st"
        rfl
  rfl
end

section
theorem o_max {i j : Int} : builtinP ("max" : Str) [.int i, .int j] = some (.int (max i j)) := (show _ = some (PyData.int (if j > i then j else i)) by kernel_rfl).trans (congrArg (fun z => some (PyData.int z)) (by
  split
  · exact (Int.max_eq_right (Int.le_of_lt ‹_›)).symm
  · exact (Int.max_eq_left (Int.not_lt.mp ‹_›)).symm))
theorem o_min {i j : Int} : builtinP ("min" : Str) [.int i, .int j] = some (.int (min i j)) := (show _ = some (PyData.int (if j < i then j else i)) by kernel_rfl).trans (congrArg (fun z => some (PyData.int z)) (by
  split
  · exact (Int.min_eq_right (Int.le_of_lt ‹_›)).symm
  · exact (Int.min_eq_left (Int.not_lt.mp ‹_›)).symm))
theorem o_sliceSet {xs ys : List PyData} {i j : Int} (h0 : 0 ≤ i) (h1 : i ≤ j) (h2 : j ≤ xs.length) (h3 : xs.length ≤ 900) (h4 : ys.length ≤ 900) : sliceSet xs ys i j = some (xs.take i.toNat ++ ys ++ xs.drop j.toNat) := by
  unfold sliceSet
  rw [decide_eq_true h0, decide_eq_true h1, decide_eq_true h2, decide_eq_true (Nat.le_trans h3 (by decide)), decide_eq_true (Nat.le_trans h4 (by decide))]; rfl
theorem flats_strs {l : List Nat} : flats (l.map fun u => PyData.str (mk [u])) = true := by
  induction l with
  | nil => rfl
  | cons a r ih => simp only [List.map_cons, flats, flat, ih, Bool.and_self]
/-- signs glued -/
theorem o_joinS {l : List Nat} (h : l.length ≤ 900) : methodP (.str (("" : String) : Str)) ("join" : Str) [.list (l.map fun u => PyData.str (mk [u]))] = some (.str (mk l)) := by
  have e : (l.map fun u => PyData.str (mk [u])) = (l.map fun u => [u]).map fun x => PyData.str (mk x) := by rw [List.map_map]; rfl
  have f : (l.map fun u => [u]).flatten = l := by
    clear h e
    induction l with
    | nil => rfl
    | cons a r ih => rw [List.map_cons, List.flatten_cons, ih]; rfl
  have g : ((l.map fun u => [u]).map List.length).sum = l.length := by
    clear h e f
    induction l with
    | nil => rfl
    | cons a r ih => simp only [List.map_cons, List.sum_cons, ih, List.length_cons, List.length_nil]; lia
  rw [e, o_join (by rw [g]; lia), f]
theorem o_joinT {l b r : List Nat} (h : l.length ≤ 900) (h1 : b.length ≤ 900) (h2 : r.length ≤ 900) : methodP (.str (("" : String) : Str)) ("join" : Str) [.list ((l.map fun u => PyData.str (mk [u])) ++ [PyData.str (mk b)] ++ (r.map fun u => PyData.str (mk [u])))] = some (.str (mk (l ++ b ++ r))) := by
  have f : ∀ l : List Nat, (l.map fun u => [u]).flatten = l := by
    intro l
    induction l with
    | nil => rfl
    | cons a r ih => rw [List.map_cons, List.flatten_cons, ih]; rfl
  have g : ∀ l : List Nat, ((l.map fun u => [u]).map List.length).sum = l.length := by
    intro l
    induction l with
    | nil => rfl
    | cons a r ih => simp only [List.map_cons, List.sum_cons, ih, List.length_cons, List.length_nil]; lia
  have e : ((l.map fun u => PyData.str (mk [u])) ++ [PyData.str (mk b)] ++ (r.map fun u => PyData.str (mk [u]))) = ((l.map fun u => [u]) ++ [b] ++ (r.map fun u => [u])).map fun x => PyData.str (mk x) := by
    rw [List.map_append, List.map_append, List.map_map, List.map_map]; rfl
  rw [e, o_join (by rw [List.map_append, List.map_append, List.sum_append, List.sum_append, g, g]; simp only [List.map_cons, List.map_nil, List.sum_cons, List.sum_nil]; lia)]
  congr 3
  rw [List.flatten_append, List.flatten_append, f, f]; simp
noncomputable def rpL (t : List Nat) (first last : Int) (b : List Nat) : List Nat := if first < t.length ∧ last ≥ max first 0 then t.take (max first 0).toNat ++ b ++ t.drop (min (last + 1) t.length).toNat else t
noncomputable def rpE (t b : List Nat) (first last : Int) (m : LV) : Loc := [("text", .val (.str (mk t))), ("first", .val (.int first)), ("last", .val (.int last)), ("by", .val (.str (mk b))), ("made", m), ("list", .glob), ("len", .glob), ("max", .glob), ("min", .glob)]
theorem d_replaced {k : Nat} {p : Option Int} {t b : List Nat} {first last : Int} (ht : t.length < 900) (hb : b.length < 900) : callP D0 (k + 1) "_law_replaced" [.val (.str (mk t)), .val (.int first), .val (.int last), .val (.str (mk b))] p = .ok (.str (mk (rpL t first last b))) p := by
  have hsz : t.length ≤ sizeLine := sz9 (Nat.lt_of_lt_of_le ht (by decide))
  have om := o_max (i := first) (j := 0)
  have on := o_min (i := last + 1) (j := (t.length : Int))
  refine call_run (rec := recL 46) (ρ := rpE t b first last .unb) (by kernel_rfl) (by kernel_rfl) ?_
  (conv => lhs; arg 1; arg 2; whnf)
  obtain ⟨M, hM⟩ : ∃ M : List PyData, M = if first < t.length ∧ last ≥ max first 0 then ((t.take (max first 0).toNat).map fun u => .str (mk [u])) ++ [.str (mk b)] ++ ((t.drop (min (last + 1) t.length).toNat).map fun u => .str (mk [u])) else t.map fun u => .str (mk [u]) := ⟨_, rfl⟩
  have hj : methodP (.str (("" : String) : Str)) ("join" : Str) [.list M] = some (.str (mk (rpL t first last b))) := by
    unfold rpL
    rw [hM]
    split
    · exact o_joinT (cut_le (Nat.le_of_lt ht)).1 (Nat.le_of_lt hb) (cut_le (Nat.le_of_lt ht)).2
    · exact o_joinS (Nat.le_of_lt ht)
  apply run_any (rr := .ok (.ret (.str (mk (rpL t first last b))), rpE t b first last (.own M)) p)
  · apply xs_next (ρ1 := rpE t b first last (.own (t.map fun u => .str (mk [u])))) (p1 := p)
    · unfold rpE
      with_reducible apply x_list
      · kernel_rfl
      · walk_at "m lk"
      · rfl
      · walk_at "m ev"
      · exact it_mk
      · exact flats_strs
      · walk_at "m loc"
      · rw [List.length_map]; exact hsz
      · walk_at "m put"
    apply xs_next (ρ1 := rpE t b first last (.own M)) (p1 := p)
    · unfold rpE
      with_reducible apply x_if (c := decide (first < t.length ∧ last ≥ max first 0)) (p1 := p)
      · by_cases h1 : first < t.length
        · apply Eq.trans
          walk_at "m t"
          exact congrArg (fun b => Res.ok (PyData.bool b) p) (decide_eq_decide.mpr ⟨fun q => ⟨h1, q⟩, fun q => q.2⟩)
        · rw [decide_eq_false fun q => h1 q.1]
          walk_at "m t"
      by_cases h : first < t.length ∧ last ≥ max first 0
      · rw [if_pos h] at hM
        rw [decide_eq_true h]
        have m0 := Int.max_le.mp h.2
        have ss := o_sliceSet (xs := t.map fun u => PyData.str (mk [u])) (ys := [.str (mk b)]) (i := max first 0) (j := min (last + 1) t.length) (Int.le_max_right _ _)
          (Int.le_min.mpr ⟨Int.le_trans h.2 (Int.le_add_one (Int.le_refl _)), Int.max_le.mpr ⟨Int.le_of_lt h.1, Int.natCast_nonneg _⟩⟩) (by rw [List.length_map]; exact Int.min_le_right _ _) (by rw [List.length_map]; exact Nat.le_of_lt ht) (by show 1 ≤ 900; decide)
        rw [← List.map_take, ← List.map_drop, ← hM] at ss
        with_reducible apply cnd_t
        · rfl
        with_reducible apply xs_any
        · with_reducible apply x_slice
          · walk_at "m lk"
          · walk_at "m ev"
          · walk_at "m ev"
          · walk_at "m ev"
          · rfl
          · exact ss
          · walk_at "m put"
        with_reducible apply ct_next
        with_reducible exact xs_nil
      · rw [if_neg h] at hM
        rw [decide_eq_false h, hM]
        with_reducible apply cnd_f
        · rfl
        with_reducible exact xs_nil
    unfold rpE
    walk_at "m st"
  rfl

/-! trimmed -/
noncomputable def keptF (s : Str) (t : List Nat) : List Int := ((List.range t.length).filter fun k => !inS s (t.getD k 0)).map fun (k : Nat) => (k : Int)
theorem kept_mem {s : Str} {t : List Nat} {z : Int} (h : z ∈ keptF s t) : 0 ≤ z ∧ z < t.length := by
  obtain ⟨k, hk, rfl⟩ := List.mem_map.mp h
  have := List.mem_range.mp (List.mem_filter.mp hk).1
  lia
theorem range_get {t : List Nat} {A m : Nat} (h : A + m ≤ t.length) : (List.range m).map (fun j => t.getD (A + j) 0) = (t.drop A).take m := by
  induction m with
  | zero => simp
  | succ m ih =>
    rw [List.range_succ, List.map_append, ih (by lia)]
    have h1 : m < (t.drop A).length := by rw [List.length_drop]; lia
    rw [List.take_succ_eq_append_getElem h1]
    have : t.getD (A + m) 0 = t[A + m]'(by lia) := by simp [show A + m < t.length from by lia]
    rw [List.map_cons, List.map_nil, this]
    simp
theorem fm_some {α β : Type} {l : List α} {f : α → β} : l.filterMap (fun a => some (f a)) = l.map f := by
  induction l with
  | nil => rfl
  | cons a r ih => rw [List.filterMap_cons, ih]; rfl
local macro_rules | `(tactic| walk_at "m op") => `(tactic| first | with_reducible exact o_eq_lnil | with_reducible exact o_ne_lnil)
noncomputable def tdL (nm : Str) (s : Str) (t : List Nat) (k f b : LV) : Loc := [("name", .val (.str nm)), ("text", .cell (.str (mk t))), ("signs", .cell (.str s)), ("kept", k), ("first", f), ("behind", b), ("range", .glob), ("len", .glob)]
noncomputable def tdA (nm : Str) (z : Int) : Int := cond (decide (nm = ("trimright" : Str))) 0 z
noncomputable def tdB (nm : Str) (t : List Nat) (y : Int) : Int := cond (decide (nm = ("trimleft" : Str))) t.length (y + 1)
noncomputable def tdF (nm : Str) (s : Str) (t : List Nat) : List Nat := match (keptF s t).head?, (keptF s t).getLast? with
  | some z, some y => (t.take (tdB nm t y).toNat).drop (tdA nm z).toNat
  | _, _ => []
theorem kept_le {s : Str} {t : List Nat} {z y : Int} (hz : (keptF s t).head? = some z) (hy : (keptF s t).getLast? = some y) : z ≤ y := by
  have hs : (keptF s t).Pairwise (· < ·) := by
    unfold keptF
    rw [List.pairwise_map]
    exact (List.Pairwise.filter _ List.pairwise_lt_range).imp fun h => by lia
  cases hk : keptF s t with
  | nil => rw [hk] at hz; cases hz
  | cons a r =>
    rw [hk] at hz hy hs
    cases hz
    have hm := List.mem_of_getLast? hy
    rcases List.mem_cons.mp hm with rfl | hm
    · lia
    · have := (List.pairwise_cons.mp hs).1 y hm; lia
theorem d_trimmed {k : Nat} {p : Option Int} {nm s : Str} {t : List Nat} (ht : t.length < 900) : callP D0 (k + 1) "_law_trimmed" [.val (.str nm), .val (.str (mk t)), .val (.str s)] p = .ok (.str (mk (tdF nm s t))) p := by
  have ht' : t.length < 1000 := Nat.lt_of_lt_of_le ht (by decide)
  have hsz : t.length ≤ sizeLine := sz9 ht'
  have hr := rangeP_up (n := (t.length : Int)) (Int.natCast_nonneg _) (Int.ofNat_le.mpr (Nat.le_of_lt ht'))
  have hlen : (keptF s t).length ≤ t.length := by
    unfold keptF
    rw [List.length_map]
    exact Nat.le_trans (List.length_filter_le _ _) (Nat.le_of_eq List.length_range)
  refine call_run (rec := recL 47) (ρ := tdL nm s t .unb .unb .unb) (by kernel_rfl) (by kernel_rfl) ?_
  obtain ⟨K, hK⟩ : ∃ K, keptF s t = K := ⟨_, rfl⟩
  (conv => lhs; arg 1; arg 2; whnf)
  apply run_any (rr := .ok (.ret (.str (mk (tdF nm s t))), tdL nm s t (.val (.list (K.map PyData.int))) (match (generalizing := false) K with
    | [] => .unb
    | z :: _ => .val (.int (tdA nm z))) (match (generalizing := false) K.getLast? with
    | none => .unb
    | some y => .val (.int (tdB nm t y)))) p)
  · apply xs_next (ρ1 := tdL nm s t (.val (.list (K.map PyData.int))) .unb .unb) (p1 := p)
    · unfold tdL
      apply Eq.trans
      with_reducible apply x_comp
      · kernel_rfl
      · walk_at "m loc"
      · with_reducible apply v_comp
        apply cp_map' (ρc := fun d => [("k", .val d), ("signs", .cell (.str s)), ("text", .cell (.str (mk t)))]) (h := fun (j : Nat) => cond (!inS s (t.getD j 0)) (some (PyData.int (0 + (j : Int)))) none)
        · kernel_rfl
        · with_reducible apply it_range
          · kernel_rfl
          · walk_at "m lk"
          · walk_at "m evs"
          · exact hr
        · exact scal_ints
        · rw [List.length_map, List.length_range, Int.toNat_natCast]; exact hsz
        · intro d; kernel_rfl
        · intro j hj
          have aj : subP (.str (mk t)) (.int (0 + (j : Int))) = some (.str (mk [t.getD j 0])) := (Int.zero_add (j : Int)).symm ▸ get_at ht' (List.mem_range.mp hj)
          apply cb_any (c := !inS s (t.getD j 0))
          · show _ = Res.ok (PyData.bool (!Txt.contains s (mk [t.getD j 0]))) none
            walk_at "m b"
          · walk_at "m ev"
          · rfl
      · walk_at "m set"
      rw [fm_int, ← hK]; rfl
    unfold tdF
    rw [hK]
    unfold tdL
    cases K with
    | nil =>
      have en : ([] : List Int).isEmpty = true := rfl
      apply Eq.trans
      walk_at "m st"
      exact congrArg (fun z => Res.ok (Fl.ret (PyData.str z), _) p) nil_eq
    | cons z r =>
      obtain ⟨y, hy⟩ : ∃ y, (z :: r).getLast? = some y := ⟨_, List.getLast?_eq_some_getLast (List.cons_ne_nil z r)⟩
      have hzm := kept_mem (s := s) (t := t) (z := z) (by rw [hK]; exact .head _)
      have hym := kept_mem (s := s) (t := t) (z := y) (by rw [hK]; exact List.mem_of_getLast? hy)
      have hzy := kept_le (s := s) (t := t) (z := z) (y := y) (by rw [hK]; rfl) (by rw [hK]; exact hy)
      simp only [List.head?_cons, hy]
      obtain ⟨A, hA, hAz⟩ : ∃ A : Nat, tdA nm z = A ∧ (A : Int) ≤ z := by
        unfold tdA
        cases decide (nm = ("trimright" : Str))
        · exact ⟨z.toNat, (Int.toNat_of_nonneg hzm.1).symm, Int.le_of_eq (Int.toNat_of_nonneg hzm.1)⟩
        · exact ⟨0, rfl, hzm.1⟩
      obtain ⟨B, hB, hyB, hBn⟩ : ∃ B : Nat, tdB nm t y = B ∧ y < B ∧ B ≤ t.length := by
        unfold tdB
        cases decide (nm = ("trimleft" : Str))
        · have e : ((y + 1).toNat : Int) = y + 1 := Int.toNat_of_nonneg (Int.le_trans hym.1 (Int.le_add_one (Int.le_refl _)))
          exact ⟨(y + 1).toNat, e.symm, by rw [e]; exact Int.lt_add_one_of_le (Int.le_refl _), Int.ofNat_le.mp (by rw [e]; exact hym.2)⟩
        · exact ⟨t.length, rfl, hym.2, Nat.le_refl _⟩
      have hAB : A ≤ B := Int.ofNat_le.mp (Int.le_trans hAz (Int.le_trans hzy (Int.le_of_lt hyB)))
      have hr2 := rangeP_two (a := (A : Int)) (b := (B : Int)) (Int.natCast_nonneg A) (Int.ofNat_le.mpr (Nat.le_trans (Nat.le_trans hAB hBn) (Nat.le_of_lt ht'))) (Int.natCast_nonneg B) (Int.ofNat_le.mpr (Nat.le_trans hBn (Nat.le_of_lt ht')))
      rw [Int.toNat_sub] at hr2
      have en : (z :: r).isEmpty = false := rfl
      have l1 : (List.map PyData.int (z :: r)).length < 1000 := by rw [List.length_map, ← hK]; exact Nat.lt_of_le_of_lt hlen ht'
      have g0 : subP (.list (List.map PyData.int (z :: r))) (.int 0) = some (.int z) := o_pick (i := 0) (by decide) ⟨show ((0 : Nat) : Int) < ((List.map PyData.int (z :: r)).length : Int) from Int.ofNat_lt.mpr (Nat.succ_pos _), Nat.lt_of_lt_of_le l1 (by decide)⟩ rfl
      have g1 : subP (.list (List.map PyData.int (z :: r))) (.int (-1)) = some (.int y) := sub_neg1 l1 (by rw [List.getLast?_map, hy]; rfl)
      apply xs_next (ρ1 := [("name", .val (.str nm)), ("text", .cell (.str (mk t))), ("signs", .cell (.str s)), ("kept", .val (.list ((z :: r).map PyData.int))), ("first", .unb), ("behind", .unb), ("range", .glob), ("len", .glob)]) (p1 := p)
      · walk_at "m x"
      apply xs_next (ρ1 := tdL nm s t (.val (.list ((z :: r).map PyData.int))) (.val (.int (tdA nm z))) .unb) (p1 := p)
      · unfold tdA tdL
        cases h : decide (nm = ("trimright" : Str))
        · apply Eq.trans
          walk_at "m x"
          rfl
        · apply Eq.trans
          walk_at "m x"
          rfl
      apply xs_next (ρ1 := tdL nm s t (.val (.list ((z :: r).map PyData.int))) (.val (.int (tdA nm z))) (.val (.int (tdB nm t y)))) (p1 := p)
      · unfold tdB tdL
        cases h : decide (nm = ("trimleft" : Str))
        · apply Eq.trans
          walk_at "m x"
          rfl
        · apply Eq.trans
          walk_at "m x"
          rfl
      rw [hA, hB, Int.toNat_natCast, Int.toNat_natCast]
      have eL : (List.range (B - A)).map (fun j => t.getD (A + j) 0) = (t.take B).drop A := by
        rw [range_get (by rw [Nat.add_sub_cancel' hAB]; exact hBn), List.drop_take]
      have hj := o_joinS (l := (t.take B).drop A) (cut_le (cut_le (Nat.le_of_lt ht)).1).2
      rw [← eL, List.map_map] at hj
      rw [← eL]
      unfold tdL
      with_reducible apply xs_any
      · with_reducible apply x_ret
        with_reducible apply v_meth1
        · rfl
        · walk_at "m ev"
        · with_reducible apply v_comp
          apply cp_map' (ρc := fun d => [("k", .val d), ("text", .cell (.str (mk t)))]) (h := fun (j : Nat) => some (PyData.str (mk [t.getD (A + j) 0])))
          · kernel_rfl
          · with_reducible apply it_range
            · kernel_rfl
            · walk_at "m lk"
            · walk_at "m evs"
            · exact hr2
          · exact scal_ints
          · rw [List.length_map, List.length_range]; exact sz9 (Nat.lt_of_le_of_lt (Nat.le_trans (Nat.sub_le _ _) hBn) ht')
          · intro d; kernel_rfl
          · intro j hjm
            have aj : subP (.str (mk t)) (.int ((A : Int) + (j : Int))) = some (.str (mk [t.getD (A + j) 0])) := get_at (i := A + j) ht' (Nat.lt_of_lt_of_le (Nat.add_lt_of_lt_sub' (List.mem_range.mp hjm)) hBn)
            apply cb_some (c := true)
            · walk_at "m b"
            · rfl
            · walk_at "m ev"
            · rfl
        · rw [fm_some]; exact hj
      with_reducible exact ct_ret
  · rfl
end

section
theorem fm_cond {α β : Type} {l : List α} {q : α → Bool} {g : α → β} : l.filterMap (fun a => cond (q a) (some (g a)) none) = (l.filter q).map g := by
  induction l with
  | nil => rfl
  | cons a r ih =>
    rw [List.filterMap_cons, List.filter_cons]
    cases h : q a <;> simp [ih]
noncomputable def maL (nm : Str) (t : List Nat) (xs ps : List PyData) (a : LV) : Loc := [("name", .val (.str nm)), ("text", .cell (.str (mk t))), ("texts", .val (.list xs)), ("places", .cell (.list ps)), ("at", a), ("range", .glob), ("len", .glob), ("_law_found", .glob), ("min", .glob), ("max", .glob), ("_law_replaced", .glob), ("str", .glob), ("_law_trimmed", .glob)]
noncomputable def idxL (t : List Nat) (v : Int) : List Nat := ((List.range t.length).filter fun (k : Nat) => decide (0 + (k : Int) = v)).map fun k => t.getD k 0
noncomputable def rngL (t : List Nat) (u v : Int) : List Nat := ((List.range t.length).filter fun (k : Nat) => decide (u ≤ 0 + (k : Int)) && decide (0 + (k : Int) ≤ v)).map fun k => t.getD k 0
section
variable {k : Nat} {p : Option Int} {a t b : List Nat} {xs ps : List PyData} {x : PyData}
theorem filt_len {n : Nat} {q : Nat → Bool} : ((List.range n).filter q).length ≤ n := by
  have := List.length_filter_le q (List.range n)
  rwa [List.length_range] at this
theorem d_made_index {v u : Int} (ht : t.length < 900) : callP D0 (k + 2) "_law_made" [.val (.str "index"), .val (.str (mk t)), .val (.list xs), .val (.list [.int v])] p = .ok (.str (mk (idxL t v))) p := by
  have hsz : t.length ≤ sizeLine := sz8 (by assumption)
  have hr := rangeP_up (n := (t.length : Int)) (by lia) (by lia)
  have s0 : subP (.list [.int v]) (.int 0) = some (.int v) := by kernel_rfl
  have atN : ∀ j : Nat, j < t.length → subP (.str (mk t)) (.int (0 + (j : Int))) = some (.str (mk [t.getD j 0])) := fun j h => by
    rw [o_at (i := 0 + (j : Int)) (by lia) ⟨by lia, by lia⟩, show (0 + (j : Int)).toNat = j from by lia]
  have hj := o_joinS (l := idxL t v) (by unfold idxL; rw [List.length_map]; exact Nat.le_trans filt_len (by lia))
  unfold idxL at hj
  rw [List.map_map] at hj
  refine call_run (rec := recL 48) (ρ := maL "index" t xs [.int v] .unb) (by kernel_rfl) (by kernel_rfl) ?_
  unfold maL
  walk_at "m r0"
  · with_reducible apply xs_any
    · with_reducible apply x_if
      · walk_at "m t"
      · with_reducible apply cnd_t
        · walk_at "m c"
        with_reducible apply xs_any
        · with_reducible apply x_ret
          with_reducible apply v_meth1
          · rfl
          · walk_at "m ev"
          · skip
            with_reducible apply v_comp
            apply cp_map' (ρc := fun d => [("k", .val d), ("places", .cell (.list [.int v])), ("text", .cell (.str (mk t)))]) (h := fun (j : Nat) => cond (decide (0 + (j : Int) = v)) (some (PyData.str (mk [t.getD j 0]))) none)
            · kernel_rfl
            · with_reducible apply it_range
              · kernel_rfl
              · walk_at "m lk"
              · walk_at "m evs"
              · exact hr
            · exact scal_ints
            · rw [List.length_map, List.length_range]; lia
            · intro d; kernel_rfl
            · intro j hj
              have aj := atN j (List.mem_range.mp hj)
              cases hc : decide (0 + (j : Int) = v)
              · apply cb_none (c := false)
                · apply Eq.trans
                  walk_at "m b"
                  rfl
                · rfl
              · apply cb_some (c := true)
                · apply Eq.trans
                  walk_at "m b"
                  rfl
                · rfl
                · walk_at "m ev"
                · rfl
          · rw [fm_cond]; exact hj
        with_reducible exact ct_ret
    with_reducible exact ct_ret
  all_goals rfl
theorem d_made_range {v u : Int} (ht : t.length < 900) : callP D0 (k + 2) "_law_made" [.val (.str "range"), .val (.str (mk t)), .val (.list xs), .val (.list [.int v, .int u])] p = .ok (.str (mk (rngL t v u))) p := by
  have hsz : t.length ≤ sizeLine := sz8 (by assumption)
  have hr := rangeP_up (n := (t.length : Int)) (by lia) (by lia)
  have s0 : subP (.list [.int v, .int u]) (.int 0) = some (.int v) := by kernel_rfl
  have s1 : subP (.list [.int v, .int u]) (.int 1) = some (.int u) := by kernel_rfl
  have atN : ∀ j : Nat, j < t.length → subP (.str (mk t)) (.int (0 + (j : Int))) = some (.str (mk [t.getD j 0])) := fun j h => by
    rw [o_at (i := 0 + (j : Int)) (by lia) ⟨by lia, by lia⟩, show (0 + (j : Int)).toNat = j from by lia]
  have hj := o_joinS (l := rngL t v u) (by unfold rngL; rw [List.length_map]; exact Nat.le_trans filt_len (by lia))
  unfold rngL at hj
  rw [List.map_map] at hj
  refine call_run (rec := recL 48) (ρ := maL "range" t xs [.int v, .int u] .unb) (by kernel_rfl) (by kernel_rfl) ?_
  unfold maL
  walk_at "m r0"
  · walk_at "m s1"
    with_reducible apply xs_any
    · with_reducible apply x_if
      · walk_at "m t"
      · with_reducible apply cnd_t
        · walk_at "m c"
        with_reducible apply xs_any
        · with_reducible apply x_ret
          with_reducible apply v_meth1
          · rfl
          · walk_at "m ev"
          · skip
            with_reducible apply v_comp
            apply cp_map' (ρc := fun d => [("k", .val d), ("places", .cell (.list [.int v, .int u])), ("text", .cell (.str (mk t)))]) (h := fun (j : Nat) => cond ((decide (v ≤ 0 + (j : Int)) && decide (0 + (j : Int) ≤ u))) (some (PyData.str (mk [t.getD j 0]))) none)
            · kernel_rfl
            · with_reducible apply it_range
              · kernel_rfl
              · walk_at "m lk"
              · walk_at "m evs"
              · exact hr
            · exact scal_ints
            · rw [List.length_map, List.length_range]; lia
            · intro d; kernel_rfl
            · intro j hj
              have aj := atN j (List.mem_range.mp hj)
              cases hc : (decide (v ≤ 0 + (j : Int)) && decide (0 + (j : Int) ≤ u))
              · apply cb_none (c := false)
                · apply Eq.trans
                  walk_at "m b"
                  rfl
                · rfl
              · apply cb_some (c := true)
                · apply Eq.trans
                  walk_at "m b"
                  rfl
                · rfl
                · walk_at "m ev"
                · rfl
          · rw [fm_cond]; exact hj
        with_reducible exact ct_ret
    with_reducible exact ct_ret
  all_goals rfl
end
end

section
theorem o_add_list {a b : List PyData} (h : (a ++ b).length ≤ sizeLine) : binP .Add (.list a) (.list b) = some (.list (a ++ b)) := by
  show (match decide ((a ++ b).length ≤ sizeLine) with | true => some (PyData.list (a ++ b)) | false => none) = _
  rw [decide_eq_true h]
theorem flatten_ones (l : List Nat) : (l.map fun u => [u]).flatten = l := by
  induction l with
  | nil => rfl
  | cons a r ih => rw [List.map_cons, List.flatten_cons, ih]; rfl
section
variable {k : Nat} {p : Option Int} {a t b : List Nat} {xs ps : List PyData} {x d : PyData}
theorem d_made_first (hc : callP D0 (k + 1) "_law_found" [.val (.str "first"), .val (.str (mk a)), .val (.str (mk t)), .val (.list ps)] p = .ok d p) : callP D0 (k + 2) "_law_made" [.val (.str "first"), .val (.str (mk t)), .val (.list [.str (mk a), .str (mk t)]), .val (.list ps)] p = .ok d p := by
  have s0 : subP (.list [.str (mk a), .str (mk t)]) (.int 0) = some (.str (mk a)) := by kernel_rfl
  refine call_run (rec := recL 48) (ρ := maL "first" t [.str (mk a), .str (mk t)] ps .unb) (by kernel_rfl) (by kernel_rfl) ?_
  unfold maL
  walk_at "m run"
theorem d_made_last (hc : callP D0 (k + 1) "_law_found" [.val (.str "last"), .val (.str (mk a)), .val (.str (mk t)), .val (.list ps)] p = .ok d p) : callP D0 (k + 2) "_law_made" [.val (.str "last"), .val (.str (mk t)), .val (.list [.str (mk a), .str (mk t)]), .val (.list ps)] p = .ok d p := by
  have s0 : subP (.list [.str (mk a), .str (mk t)]) (.int 0) = some (.str (mk a)) := by kernel_rfl
  refine call_run (rec := recL 48) (ρ := maL "last" t [.str (mk a), .str (mk t)] ps .unb) (by kernel_rfl) (by kernel_rfl) ?_
  unfold maL
  walk_at "m run"
theorem d_made_replace5 {v u : Int} (ht : t.length < 900) (hb : b.length < 900) : callP D0 (k + 2) "_law_made" [.val (.str "replace"), .val (.str (mk t)), .val (.list [.str (mk t)]), .val (.list [.int v, .int u])] p = .ok (.str (mk (rpL t v u []))) p := by
  have s0 : subP (.list [.int v, .int u]) (.int 0) = some (.int v) := by kernel_rfl
  have s1 : subP (.list [.int v, .int u]) (.int 1) = some (.int u) := by kernel_rfl
  have s2 : subP (.list [.str (mk t), .str (mk b)]) (.int 1) = some (.str (mk b)) := by kernel_rfl
  have hc : callP D0 (k + 1) "_law_replaced" [.val (.str (mk t)), .val (.int v), .val (.int u), .val (.str (mk b))] p = .ok (.str (mk (rpL t v u b))) p := d_replaced ht hb
  have hc' : callP D0 (k + 1) "_law_replaced" [.val (.str (mk t)), .val (.int v), .val (.int u), .val (.str (("" : String) : Str))] p = .ok (.str (mk (rpL t v u []))) p := by rw [nil_eq]; exact d_replaced ht (by decide)
  refine call_run (rec := recL 48) (ρ := maL "replace" t [.str (mk t)] [.int v, .int u] .unb) (by kernel_rfl) (by kernel_rfl) ?_
  unfold maL
  walk_at "m run"
theorem d_made_replace6 {v u : Int} (ht : t.length < 900) (hb : b.length < 900) : callP D0 (k + 2) "_law_made" [.val (.str "replace"), .val (.str (mk t)), .val (.list [.str (mk t), .str (mk b)]), .val (.list [.int v, .int u])] p = .ok (.str (mk (rpL t v u b))) p := by
  have s0 : subP (.list [.int v, .int u]) (.int 0) = some (.int v) := by kernel_rfl
  have s1 : subP (.list [.int v, .int u]) (.int 1) = some (.int u) := by kernel_rfl
  have s2 : subP (.list [.str (mk t), .str (mk b)]) (.int 1) = some (.str (mk b)) := by kernel_rfl
  have hc : callP D0 (k + 1) "_law_replaced" [.val (.str (mk t)), .val (.int v), .val (.int u), .val (.str (mk b))] p = .ok (.str (mk (rpL t v u b))) p := d_replaced ht hb
  have hc' : callP D0 (k + 1) "_law_replaced" [.val (.str (mk t)), .val (.int v), .val (.int u), .val (.str (("" : String) : Str))] p = .ok (.str (mk (rpL t v u []))) p := by rw [nil_eq]; exact d_replaced ht (by decide)
  refine call_run (rec := recL 48) (ρ := maL "replace" t [.str (mk t), .str (mk b)] [.int v, .int u] .unb) (by kernel_rfl) (by kernel_rfl) ?_
  unfold maL
  walk_at "m run"
theorem d_made_trim0 (ht : t.length < 900) : callP D0 (k + 2) "_law_made" [.val (.str "trim"), .val (.str (mk t)), .val (.list [.str (mk t)]), .val (.list ps)] p = .ok (.str (mk (tdF "trim" " \n" t))) p := by
  have hc : callP D0 (k + 1) "_law_trimmed" [.val (.str "trim"), .val (.str (mk t)), .val (.str " \n")] p = .ok (.str (mk (tdF "trim" " \n" t))) p := d_trimmed ht
  refine call_run (rec := recL 48) (ρ := maL "trim" t [.str (mk t)] ps .unb) (by kernel_rfl) (by kernel_rfl) ?_
  unfold maL
  walk_at "m run"
theorem d_made_trim1 {s : Str} (ht : t.length < 900) : callP D0 (k + 2) "_law_made" [.val (.str "trim"), .val (.str (mk t)), .val (.list [.str (mk t), .str s]), .val (.list ps)] p = .ok (.str (mk (tdF "trim" s t))) p := by
  have hc : callP D0 (k + 1) "_law_trimmed" [.val (.str "trim"), .val (.str (mk t)), .val (.str s)] p = .ok (.str (mk (tdF "trim" s t))) p := d_trimmed ht
  have s2 : subP (.list [.str (mk t), .str s]) (.int 1) = some (.str s) := by kernel_rfl
  refine call_run (rec := recL 48) (ρ := maL "trim" t [.str (mk t), .str s] ps .unb) (by kernel_rfl) (by kernel_rfl) ?_
  unfold maL
  walk_at "m run"
theorem d_made_trimleft0 (ht : t.length < 900) : callP D0 (k + 2) "_law_made" [.val (.str "trimleft"), .val (.str (mk t)), .val (.list [.str (mk t)]), .val (.list ps)] p = .ok (.str (mk (tdF "trimleft" " \n" t))) p := by
  have hc : callP D0 (k + 1) "_law_trimmed" [.val (.str "trimleft"), .val (.str (mk t)), .val (.str " \n")] p = .ok (.str (mk (tdF "trimleft" " \n" t))) p := d_trimmed ht
  refine call_run (rec := recL 48) (ρ := maL "trimleft" t [.str (mk t)] ps .unb) (by kernel_rfl) (by kernel_rfl) ?_
  unfold maL
  walk_at "m run"
theorem d_made_trimleft1 {s : Str} (ht : t.length < 900) : callP D0 (k + 2) "_law_made" [.val (.str "trimleft"), .val (.str (mk t)), .val (.list [.str (mk t), .str s]), .val (.list ps)] p = .ok (.str (mk (tdF "trimleft" s t))) p := by
  have hc : callP D0 (k + 1) "_law_trimmed" [.val (.str "trimleft"), .val (.str (mk t)), .val (.str s)] p = .ok (.str (mk (tdF "trimleft" s t))) p := d_trimmed ht
  have s2 : subP (.list [.str (mk t), .str s]) (.int 1) = some (.str s) := by kernel_rfl
  refine call_run (rec := recL 48) (ρ := maL "trimleft" t [.str (mk t), .str s] ps .unb) (by kernel_rfl) (by kernel_rfl) ?_
  unfold maL
  walk_at "m run"
theorem d_made_trimright0 (ht : t.length < 900) : callP D0 (k + 2) "_law_made" [.val (.str "trimright"), .val (.str (mk t)), .val (.list [.str (mk t)]), .val (.list ps)] p = .ok (.str (mk (tdF "trimright" " \n" t))) p := by
  have hc : callP D0 (k + 1) "_law_trimmed" [.val (.str "trimright"), .val (.str (mk t)), .val (.str " \n")] p = .ok (.str (mk (tdF "trimright" " \n" t))) p := d_trimmed ht
  refine call_run (rec := recL 48) (ρ := maL "trimright" t [.str (mk t)] ps .unb) (by kernel_rfl) (by kernel_rfl) ?_
  unfold maL
  walk_at "m run"
theorem d_made_trimright1 {s : Str} (ht : t.length < 900) : callP D0 (k + 2) "_law_made" [.val (.str "trimright"), .val (.str (mk t)), .val (.list [.str (mk t), .str s]), .val (.list ps)] p = .ok (.str (mk (tdF "trimright" s t))) p := by
  have hc : callP D0 (k + 1) "_law_trimmed" [.val (.str "trimright"), .val (.str (mk t)), .val (.str s)] p = .ok (.str (mk (tdF "trimright" s t))) p := d_trimmed ht
  have s2 : subP (.list [.str (mk t), .str s]) (.int 1) = some (.str s) := by kernel_rfl
  refine call_run (rec := recL 48) (ρ := maL "trimright" t [.str (mk t), .str s] ps .unb) (by kernel_rfl) (by kernel_rfl) ?_
  unfold maL
  walk_at "m run"
theorem rev_range (t : List Nat) : (List.range t.length).map (fun j => t.getD (t.length - 1 - j) 0) = t.reverse := by
  apply List.ext_getElem
  · simp
  · intro i h1 h2
    simp only [List.length_map, List.length_range] at h1
    simp [show t.length - 1 - i < t.length from by omega]
theorem d_made_reverse (ht : t.length < 900) : callP D0 (k + 2) "_law_made" [.val (.str "reverse"), .val (.str (mk t)), .val (.list xs), .val (.list ps)] p = .ok (.str (mk t.reverse)) p := by
  have hsz : t.length ≤ sizeLine := sz8 (by assumption)
  have hr := rangeP_up (n := (t.length : Int)) (by lia) (by lia)
  have atN : ∀ j : Nat, j < t.length → subP (.str (mk t)) (.int ((t.length : Int) - 1 - (0 + (j : Int)))) = some (.str (mk [t.getD (t.length - 1 - j) 0])) := fun j h => by
    rw [o_at (by lia) ⟨by lia, by lia⟩, show ((t.length : Int) - 1 - (0 + (j : Int))).toNat = t.length - 1 - j from by lia]
  have hj := o_joinS (l := t.reverse) (by rw [List.length_reverse]; lia)
  rw [← rev_range, List.map_map] at hj
  rw [← rev_range]
  refine call_run (rec := recL 48) (ρ := maL "reverse" t xs ps .unb) (by kernel_rfl) (by kernel_rfl) ?_
  unfold maL
  walk_at "m r0"
  · walk_at "m s1"
    walk_at "m s1"
    walk_at "m s1"
    walk_at "m s1"
    walk_at "m s1"
    with_reducible apply xs_any
    · with_reducible apply x_if
      · walk_at "m t"
      · with_reducible apply cnd_t
        · walk_at "m c"
        with_reducible apply xs_any
        · with_reducible apply x_ret
          with_reducible apply v_meth1
          · rfl
          · walk_at "m ev"
          · skip
            with_reducible apply v_comp
            apply cp_map' (ρc := fun d => [("k", .val d), ("len", .glob), ("text", .cell (.str (mk t)))]) (h := fun (j : Nat) => some (PyData.str (mk [t.getD (t.length - 1 - j) 0])))
            · kernel_rfl
            · with_reducible apply it_range
              · kernel_rfl
              · walk_at "m lk"
              · walk_at "m evs"
              · exact hr
            · exact scal_ints
            · rw [List.length_map, List.length_range]; lia
            · intro d; kernel_rfl
            · intro j hj
              have aj := atN j (List.mem_range.mp hj)
              apply cb_some (c := true)
              · walk_at "m b"
              · rfl
              · walk_at "m ev"
              · rfl
          · rw [fm_some]; exact hj
        with_reducible exact ct_ret
    with_reducible exact ct_ret
  all_goals rfl
theorem d_made_length (ht : t.length < 900) : callP D0 (k + 2) "_law_made" [.val (.str "length"), .val (.str (mk t)), .val (.list xs), .val (.list ps)] p = .ok (.str (strI t.length)) p := by
  have hsz : t.length ≤ sizeLine := sz8 (by assumption)
  have ho := o_str (i := (t.length : Int)) (by lia)
  have hl := o_len_list (ys := t.map fun u => PyData.str (mk [u])) (by rw [List.length_map]; exact hsz)
  rw [List.length_map] at hl
  refine call_run (rec := recL 48) (ρ := maL "length" t xs ps .unb) (by kernel_rfl) (by kernel_rfl) ?_
  unfold maL
  walk_at "m r0"
  · walk_at "m s1"
    walk_at "m s1"
    walk_at "m s1"
    walk_at "m s1"
    walk_at "m s1"
    walk_at "m s1"
    with_reducible apply xs_any
    · with_reducible apply x_if
      · walk_at "m t"
      · with_reducible apply cnd_t
        · walk_at "m c"
        with_reducible apply xs_any
        · with_reducible apply x_ret
          with_reducible apply v_builtin
          · rfl
          · walk_at "m lk"
          · kernel_rfl
          · with_reducible apply es_cons
            · rfl
            · with_reducible apply v_builtin
              · rfl
              · walk_at "m lk"
              · kernel_rfl
              · with_reducible apply es_cons
                · rfl
                · skip
                  with_reducible apply v_comp
                  apply cp_map' (ρc := fun d => [("c", .val d)]) (h := fun (j : Nat) => some (PyData.str (mk [j])))
                  · kernel_rfl
                  · with_reducible apply it_name
                    · walk_at "m ev"
                    · exact it_mk
                  · rw [List.all_eq_true]; intro d hd; obtain ⟨k, _, rfl⟩ := List.mem_map.mp hd; rfl
                  · rw [List.length_map]; lia
                  · intro d; kernel_rfl
                  · intro j hj
                    skip
                    apply cb_some (c := true)
                    · walk_at "m b"
                    · rfl
                    · walk_at "m ev"
                    · rfl
                · with_reducible exact es_nil
              · rw [fm_some]; exact hl
            · with_reducible exact es_nil
          · exact ho
        with_reducible exact ct_ret
    with_reducible exact ct_ret
  all_goals rfl
theorem take_range (t : List Nat) (A : Nat) (h : A ≤ t.length) : (List.range A).map (fun j => t.getD j 0) = t.take A := by
  have := range_get (t := t) (A := 0) (m := A) (by lia)
  simp only [Nat.zero_add, List.drop_zero] at this
  exact this
theorem drop_range (t : List Nat) (A : Nat) (h : A ≤ t.length) : (List.range (t.length - A)).map (fun j => t.getD (A + j) 0) = t.drop A := by
  rw [range_get (by lia), List.take_of_length_le (by rw [List.length_drop]; lia)]
noncomputable def insA (t : List Nat) (v : Int) : Nat := (min (max v 0) (t.length : Int)).toNat
theorem d_made_insert {v : Int} (ht : t.length < 900) (hb : b.length < 900) : callP D0 (k + 2) "_law_made" [.val (.str "insert"), .val (.str (mk t)), .val (.list [.str (mk t), .str (mk b)]), .val (.list [.int v])] p = .ok (.str (mk (t.take (insA t v) ++ b ++ t.drop (insA t v)))) p := by
  have ht' : t.length < 1000 := Nat.lt_of_lt_of_le ht (by decide)
  have hsz : t.length ≤ sizeLine := sz9 ht'
  have om := o_max (i := v) (j := 0)
  have on := o_min (i := max v 0) (j := (t.length : Int))
  have hA : ((insA t v : Nat) : Int) = min (max v 0) (t.length : Int) := Int.toNat_of_nonneg (Int.le_min.mpr ⟨Int.le_max_right _ _, Int.natCast_nonneg _⟩)
  have hA' : insA t v ≤ t.length := Int.ofNat_le.mp (by rw [hA]; exact Int.min_le_right _ _)
  rw [← hA] at on
  generalize insA t v = A at *
  have hA9 := Nat.le_trans hA' (Nat.le_of_lt ht')
  have hr := rangeP_up (n := (A : Int)) (Int.natCast_nonneg A) (Int.ofNat_le.mpr hA9)
  have hr2 := rangeP_two (a := (A : Int)) (b := (t.length : Int)) (Int.natCast_nonneg A) (Int.ofNat_le.mpr hA9) (Int.natCast_nonneg _) (Int.ofNat_le.mpr (Nat.le_of_lt ht'))
  rw [Int.toNat_natCast] at hr
  rw [Int.toNat_sub] at hr2
  have z1 : A + 1 ≤ sizeLine := sz_m (Nat.succ_le_succ hA9) (by decide)
  have z2 : A + 1 + (t.length - A) ≤ sizeLine := sz_m (Nat.add_le_add (Nat.succ_le_succ hA9) (Nat.le_trans (Nat.sub_le _ _) (Nat.le_of_lt ht'))) (by decide)
  have s0 : subP (.list [.int v]) (.int 0) = some (.int v) := by kernel_rfl
  have s1 : subP (.list [.str (mk t), .str (mk b)]) (.int 1) = some (.str (mk b)) := by kernel_rfl
  have at1 : ∀ j : Nat, j < A → subP (.str (mk t)) (.int (0 + (j : Int))) = some (.str (mk [t.getD j 0])) := fun j h => (Int.zero_add (j : Int)).symm ▸ get_at ht' (Nat.lt_of_lt_of_le h hA')
  have at2 : ∀ j : Nat, j < t.length - A → subP (.str (mk t)) (.int ((A : Int) + (j : Int))) = some (.str (mk [t.getD (A + j) 0])) := fun j h => get_at (i := A + j) ht' (Nat.add_lt_of_lt_sub' h)
  have hj := o_joinT (l := t.take A) (b := b) (r := t.drop A) (cut_le (Nat.le_of_lt ht)).1 (Nat.le_of_lt hb) (cut_le (Nat.le_of_lt ht)).2
  rw [← take_range t A hA', ← drop_range t A hA', List.map_map, List.map_map] at hj
  rw [← take_range t A hA', ← drop_range t A hA']
  refine call_run (rec := recL 48) (ρ := maL "insert" t [.str (mk t), .str (mk b)] [.int v] .unb) (by kernel_rfl) (by kernel_rfl) ?_
  unfold maL
  walk_at "m r0"
  · walk_at "m s1"
    walk_at "m s1"
    walk_at "m s1"
    with_reducible apply xs_any
    · with_reducible apply x_if
      · walk_at "m t"
      · with_reducible apply cnd_t
        · walk_at "m c"
        walk_at "m s1"
        with_reducible apply xs_any
        · with_reducible apply x_ret
          with_reducible apply v_meth1
          · rfl
          · walk_at "m ev"
          · with_reducible apply v_bin
            · with_reducible apply v_bin
              · skip
                with_reducible apply v_comp
                apply cp_map' (ρc := fun d => [("k", .val d), ("text", .cell (.str (mk t)))]) (h := fun (j : Nat) => some (PyData.str (mk [t.getD j 0])))
                · kernel_rfl
                · with_reducible apply it_range
                  · kernel_rfl
                  · walk_at "m lk"
                  · walk_at "m evs"
                  · exact hr
                · exact scal_ints
                · rw [List.length_map, List.length_range]; exact sz_m hA9 (by decide)
                · intro d; kernel_rfl
                · intro j hj
                  have aj := at1 j (List.mem_range.mp hj)
                  apply cb_some (c := true)
                  · walk_at "m b"
                  · rfl
                  · walk_at "m ev"
                  · rfl
              · walk_at "m ev"
              · exact o_add_list (by simp only [fm_some, List.length_append, List.length_map, List.length_range, List.length_cons, List.length_nil]; exact z1)
            · skip
              with_reducible apply v_comp
              apply cp_map' (ρc := fun d => [("k", .val d), ("text", .cell (.str (mk t)))]) (h := fun (j : Nat) => some (PyData.str (mk [t.getD (A + j) 0])))
              · kernel_rfl
              · with_reducible apply it_range
                · kernel_rfl
                · walk_at "m lk"
                · walk_at "m evs"
                · exact hr2
              · exact scal_ints
              · rw [List.length_map, List.length_range]; exact Nat.le_trans (Nat.sub_le _ _) hsz
              · intro d; kernel_rfl
              · intro j hj
                have aj := at2 j (List.mem_range.mp hj)
                apply cb_some (c := true)
                · walk_at "m b"
                · rfl
                · walk_at "m ev"
                · rfl
            · exact o_add_list (by simp only [fm_some, List.length_append, List.length_map, List.length_range, List.length_cons, List.length_nil]; exact z2)
          · rw [fm_some, fm_some]; exact hj
        with_reducible exact ct_ret
    with_reducible exact ct_ret
  all_goals rfl
end
end

section
noncomputable def rdR (m : Str) (c : PyData) : PyData := .tuple [.str "raised", .int 1, .str m, c]
noncomputable def rpR (t : List Nat) (w : Str) (v : Option Int) (h : Bool) : PyData := cond h (match v with
  | some n => cond (farI n) (rdR whyW (codeW whyW)) (.tuple [.str "gave", .str (mk (List.replicate n.toNat t).flatten)])
  | none => .none) (rdR (wholeMsg w) codeN)
noncomputable def rrL (t : List Nat) (ix : PyData) (w e n h y : LV) : Loc := [("text", .cell (.str (mk t))), ("index", .val ix), ("word", w), ("is_end", e), ("number", n), ("is_whole", h), ("why", y), ("range", .glob)]
theorem d_repeated_no {k : Nat} {p : Option Int} {t : List Nat} {w : Str} {e : Bool} {v : Option Int} (hw : w.length < 100) : callP D0 (k + 1) "_law_repeated" [.val (.str (mk t)), .val (idxT w e v false)] p = .ok (rpR t w v false) p := by
  have l1 : (Str.ofString "expected integer but got \"").length = 26 := by decide +kernel
  have l2 : (Str.ofString "\"").length = 1 := by decide +kernel
  unfold idxT
  cases v with
  | none =>
    refine call_run (rec := recL 49) (ρ := rrL t (.tuple [.str w, .bool e, .none, .bool false]) .unb .unb .unb .unb .unb) (by kernel_rfl) (by kernel_rfl) ?_
    unfold rrL
    (show (exsP _ _ [(_, _), (_, LV.val (PyData.tuple [.str w, .bool e, .none, .bool false])), (_, _), (_, _), (_, _), (_, _), (_, _), (_, _)] _).bind _ = _)
    walk_at "m run"
  | some v =>
    refine call_run (rec := recL 49) (ρ := rrL t (.tuple [.str w, .bool e, .int v, .bool false]) .unb .unb .unb .unb .unb) (by kernel_rfl) (by kernel_rfl) ?_
    unfold rrL
    walk_at "m run"
theorem d_repeated {k : Nat} {p : Option Int} {t : List Nat} {w : Str} {e : Bool} {n : Int} (ht : t.length < 900) (hn : farI n = false → n ≤ 900) : callP D0 (k + 1) "_law_repeated" [.val (.str (mk t)), .val (idxT w e (some n) true)] p = .ok (rpR t w (some n) true) p := by
  have p1 : binP .Pow (.int 2) (.int 63) = some (.int 9223372036854775808) := by kernel_rfl
  have hsz := sizeLine_big
  unfold idxT
  refine call_run (rec := recL 49) (ρ := rrL t (.tuple [.str w, .bool e, .int n, .bool true]) .unb .unb .unb .unb .unb) (by kernel_rfl) (by kernel_rfl) ?_
  unfold rrL rpR
  simp only [cond_true]
  cases hf : farI n with
  | true =>
    simp only [cond_true]
    unfold farI at hf
    by_cases h1 : n < -9223372036854775808
    · walk_at "m run"
    · have h2 : n ≥ 9223372036854775808 := by
        rw [decide_eq_false h1, Bool.false_or] at hf; exact of_decide_eq_true hf
      walk_at "m run"
  | false =>
    simp only [cond_false]
    have hn9 := hn hf
    unfold farI at hf
    simp only [Bool.or_eq_false_iff, decide_eq_false_iff_not] at hf
    have hr := rangeP_any (n := n) (by lia) (by lia)
    have hj := o_join (l := (List.range n.toNat).map fun _ => t) (by
      have : ∀ m : Nat, (((List.range m).map fun _ => t).map List.length).sum = m * t.length := by
        intro m
        rw [List.map_map, show (List.length ∘ fun (_ : Nat) => t) = fun _ => t.length from rfl, List.map_const', List.sum_replicate_nat, List.length_range]
      rw [this]
      have h9 : n.toNat ≤ 900 := by lia
      exact Nat.le_trans (Nat.mul_le_mul h9 (Nat.le_of_lt ht)) (by decide))
    rw [List.map_map] at hj
    have e9 : (List.range n.toNat).map (fun _ => t) = List.replicate n.toNat t := by rw [List.map_const', List.length_range]
    rw [← e9]
    have h1 : ¬ n < -9223372036854775808 := hf.1
    have h2 : ¬ n ≥ 9223372036854775808 := hf.2
    walk_at "m r0"
    · walk_at "m s1"
      walk_at "m s1"
      walk_at "m s1"
      with_reducible apply xs_any
      · with_reducible apply x_ret
        with_reducible apply v_tuple
        · with_reducible apply es_cons
          · rfl
          · walk_at "m ev"
          · with_reducible apply es_cons
            · rfl
            · with_reducible apply v_meth1
              · rfl
              · walk_at "m ev"
              · with_reducible apply v_comp
                apply cp_map' (ρc := fun d => [("k", .val d), ("text", .cell (.str (mk t)))]) (h := fun (_ : Nat) => some (PyData.str (mk t)))
                · kernel_rfl
                · with_reducible apply it_range
                  · kernel_rfl
                  · walk_at "m lk"
                  · walk_at "m evs"
                  · exact hr
                · exact scal_ints
                · rw [List.length_map, List.length_range]; lia
                · intro d; kernel_rfl
                · intro j hj
                  apply cb_some (c := true)
                  · walk_at "m b"
                  · rfl
                  · walk_at "m ev"
                  · rfl
              · rw [fm_some]; exact hj
            · with_reducible exact es_nil
        · walk_at "m sz"
      with_reducible exact ct_ret
    all_goals rfl
end

section
section
variable {k : Nat} {p : Option Int} {t : List Nat} {xs rest : List PyData} {d : PyData} {nm w w' : Str} {e e' h h' bF bI : Bool} {v v' : Int} {ov ov' : Option Int}
noncomputable def dueL (nm : Str) (xs is : List PyData) (t pl w e n h y z : LV) : Loc := [("name", .val (.str nm)), ("texts", .val (.list xs)), ("indices", .val (.list is)), ("text", t), ("places", pl), ("word", w), ("is_end", e), ("number", n), ("is_whole", h), ("why", y), ("end", z), ("_law_repeated", .glob), ("len", .glob), ("_law_made", .glob)]
noncomputable def endV (t : List Nat) (bI : Bool) : Int := cond bI (t.length : Int) ((t.length : Int) - 1)
noncomputable def plV (t : List Nat) (bI e : Bool) (v : Int) : Int := cond e (v + endV t bI) v
/-- how a name is dispatched -/
structure NmF (nm : Str) (xs : List PyData) (t : List Nat) (bF bI : Bool) : Prop where
  rep : decide (nm = Str.ofString "repeat") = false
  inn : cmpP .In (.str nm) (.tuple [.str (Str.ofString "first"), .str (Str.ofString "last")]) = some bF
  ins : decide (nm = Str.ofString "insert") = bI
  txt : subP (.list xs) (.int (cond bF 1 0)) = some (.str (mk t))
  len : t.length < 900
theorem d_due_rep {ix : PyData} (hc : callP D0 (k + 2) "_law_repeated" [.val (.str (mk t)), .val ix] p = .ok d p) : callP D0 (k + 3) "_law_due" [.val (.str "repeat"), .val (.list [.str (mk t)]), .val (.list [ix])] p = .ok d p := by
  have s0 : subP (.list [.str (mk t)]) (.int 0) = some (.str (mk t)) := by kernel_rfl
  have s1 : subP (.list [ix]) (.int 0) = some ix := by kernel_rfl
  refine call_run (rec := recL 50) (ρ := dueL "repeat" [.str (mk t)] [ix] .unb .unb .unb .unb .unb .unb .unb .unb) (by kernel_rfl) (by kernel_rfl) ?_
  unfold dueL
  walk_at "m run"
theorem run_ex {r : Res (Fl × Loc)} (h : ∃ ρ, r = .ok (.ret d, ρ) p) : r.bind retR = .ok d p := h.elim fun _ e => run_ok e rfl
theorem xs_ex {ex : Loc → Option Int → Stmt → Res (Fl × Loc)} {ρ ρ1 : Loc} {s : Stmt} {ss : List Stmt} (h : ex ρ p s = .ok (.next, ρ1) p) (g : ∃ ρ', exsP ex ss ρ1 p = .ok (.ret d, ρ') p) : ∃ ρ', exsP ex (s :: ss) ρ p = .ok (.ret d, ρ') p := g.imp fun _ e => xs_next h e
/-- the index words one by one: a number goes to the places, none ends the loop -/
theorem for_pl {α τ : Type} {bd : PyData → Loc → Option Int → Res (Fl × Loc)} {g v er : α → PyData} {bad : α → Bool} {inv : List PyData → τ → Loc} {st : α → τ} (hn : ∀ ps s a, ps.length ≤ 900 → bad a = false → bd (g a) (inv ps s) p = .ok (.next, inv (ps ++ [v a]) (st a)) p)
    (l : List α) : (∀ a, l.find? bad = some a → ∀ ps s, ∃ ρ, bd (g a) (inv ps s) p = .ok (.ret (er a), ρ) p) → ∀ ps s, ps.length + l.length ≤ 900 → ∃ ρ s', forP bd (l.map g) (inv ps s) p = match l.find? bad with | none => .ok (.next, inv (ps ++ l.map v) s') p | some a => .ok (.ret (er a), ρ) p := by
  induction l with
  | nil => exact fun _ ps s _ => ⟨[], s, by show _ = Res.ok (Fl.next, inv (ps ++ []) s) p; rw [List.append_nil]; rfl⟩
  | cons a r ih =>
    intro hr ps s hl
    rw [List.map_cons, List.find?_cons]
    cases hb : bad a with
    | true => exact (hr a (by rw [List.find?_cons, hb]) ps s).elim fun ρ e => ⟨ρ, s, f_ret e⟩
    | false =>
      have e := hn ps s a (Nat.le_trans (Nat.le_add_right _ _) hl) hb
      obtain ⟨ρ, s', k⟩ := ih (fun b m => hr b (by rw [List.find?_cons, hb]; exact m)) (ps ++ [v a]) (st a) (by rw [List.length_append, Nat.add_assoc]; exact Nat.le_trans (Nat.le_of_eq (by rw [Nat.add_comm [v a].length]; rfl)) hl)
      refine ⟨ρ, s', ?_⟩
      rw [f_cons e k, List.append_assoc]; rfl
noncomputable def pickR {α : Type} (er : α → PyData) (d : PyData) : Option α → PyData
  | none => d
  | some a => er a
theorem xs_for_pl {α τ : Type} {C : CallP} {n : Nat} {tg it : Expr} {s1 ss : List Stmt} {q : Pos} {g v er : α → PyData} {bad : α → Bool} {inv : List PyData → τ → Loc} {st : α → τ} {l : List α} {s : τ} (hi : forItems (isTup tg) (evP n C false (inv [] s)) (inv [] s) p it = .ok (l.map g) p)
    (hn : ∀ ps s a, ps.length ≤ 900 → bad a = false → ((Res.ofOpt p (bindP tg (g a) (inv ps s))).bind fun ρ p => exsP (exP C n) s1 ρ p) = .ok (.next, inv (ps ++ [v a]) (st a)) p)
    (hr : ∀ a, l.find? bad = some a → ∀ ps s, ∃ ρ, ((Res.ofOpt p (bindP tg (g a) (inv ps s))).bind fun ρ p => exsP (exP C n) s1 ρ p) = .ok (.ret (er a), ρ) p) (hl : l.length ≤ 900)
    (h0 : l.find? bad = none → ∀ s', ∃ ρ', exsP (exP C (n + 1)) ss (inv (l.map v) s') p = .ok (.ret d, ρ') p) : ∃ ρ', exsP (exP C (n + 1)) (.For tg it s1 [] q :: ss) (inv [] s) p = .ok (.ret (pickR er d (l.find? bad)), ρ') p := by
  obtain ⟨ρ, s', F⟩ := for_pl (bd := fun d ρ p => (Res.ofOpt p (bindP tg d ρ)).bind fun ρ p => exsP (exP C n) s1 ρ p) hn l hr [] s (Nat.zero_add _ ▸ hl)
  cases hb : l.find? bad with
  | none => rw [hb] at F; exact (h0 hb s').imp fun _ e => xs_next (x_for hi F) e
  | some a => rw [hb] at F; exact ⟨ρ, xs_ret (x_for hi F)⟩
theorem some_ne {α : Type} {a : α} {P : Prop} (h : some a = none) : P := nomatch h
set_option genInjectivity false in
set_option genSizeOf false in
/-- an index word with what it is worth -/
structure Ix where
  w : Str
  e : Bool
  o : Option Int
  h : Bool
noncomputable def Ix.pl (t : List Nat) (bI : Bool) (x : Ix) : PyData := .int (plV t bI x.e (x.o.getD 0))
noncomputable def dueS (nm : Str) (xs is : List PyData) (t : List Nat) (ps : List PyData) (s : Option PyData × Option PyData × Option PyData × Option PyData × Option PyData) : Loc := dueL nm xs is (.val (.str (mk t))) (.own ps) (olv s.1) (olv s.2.1) (olv s.2.2.1) (olv s.2.2.2.1) .unb (olv s.2.2.2.2)
theorem d_due (N : NmF nm xs t bF bI) (L : List Ix) (hl : L.length ≤ 900) (hw : ∀ x, (L.find? fun x => x.o.isNone) = some x → x.w.length < 100) (hc : (L.find? fun x => x.o.isNone) = none → callP D0 (k + 2) "_law_made" [.val (.str nm), .val (.str (mk t)), .val (.list xs), .val (.list (L.map (Ix.pl t bI)))] p = .ok d p) :
    callP D0 (k + 3) "_law_due" [.val (.str nm), .val (.list xs), .val (.list (L.map fun x => idxT x.w x.e x.o x.h))] p = .ok (pickR (fun x => rdR (indexMsg x.w) codeI) (.tuple [.str "gave", d]) (L.find? fun x => x.o.isNone)) p := by
  obtain ⟨n1, n2, n3, n4, n5⟩ := N
  have hsz : t.length ≤ sizeLine := sz9 (Nat.lt_of_lt_of_le n5 (by decide))
  obtain ⟨is, his⟩ : ∃ is, L.map (fun x => idxT x.w x.e x.o x.h) = is := ⟨_, rfl⟩
  rw [his]
  refine call_run (rec := recL 50) (ρ := dueL nm xs is .unb .unb .unb .unb .unb .unb .unb .unb) (by kernel_rfl) (by kernel_rfl) ?_
  (conv => lhs; arg 1; arg 2; whnf)
  apply run_ex
  unfold dueL
  apply xs_ex
  · walk_at "m x"
  apply xs_ex (ρ1 := dueS nm xs is t [] (none, none, none, none, none))
  · cases bF <;> simp only [cond_true, cond_false] at n4
    · apply Eq.trans
      walk_at "m x"
      rfl
    · apply Eq.trans
      walk_at "m x"
      rfl
  refine xs_for_pl (d := .tuple [.str "gave", d]) (bad := fun x => x.o.isNone) (inv := dueS nm xs is t) (s := (none, none, none, none, none)) (l := L) (g := fun x => idxT x.w x.e x.o x.h) (v := Ix.pl t bI) (er := fun x => rdR (indexMsg x.w) codeI) (st := fun x => (some (.str x.w), some (.bool x.e), some (optI x.o), some (.bool x.h), some (.int (endV t bI)))) ?_ (fun ps s x h9 hx => ?_) (fun x hx ps s => ?_) hl (fun h0 s' => ?_)
  · rw [his]
    unfold dueS dueL
    walk_at "m items"
  · obtain ⟨w, e, o, h⟩ := x
    cases o with
    | none => cases hx
    | some v =>
      show _ = Res.ok (Fl.next, dueS nm xs is t (ps ++ [.int (plV t bI e v)]) (some (.str w), some (.bool e), some (.int v), some (.bool h), some (.int (endV t bI)))) p
      (show ((Res.ofOpt p (bindP _ (.tuple [.str w, .bool e, .int v, .bool h]) _)).bind _) = _)
      have h9 : ps.length ≤ 1000 := Nat.le_trans h9 (by decide)
      unfold dueS dueL
      apply turn_tuple
      walk_at "m sets"
      walk_at "m s1"
      apply xs_next (ρ1 := dueL nm xs is (.val (.str (mk t))) (.own ps) (.val (.str w)) (.val (.bool e)) (.val (.int v)) (.val (.bool h)) .unb (.val (.int (endV t bI)))) (p1 := p)
      · unfold endV
        cases bI
        · apply Eq.trans
          walk_at "m x"
          rfl
        · apply Eq.trans
          walk_at "m x"
          rfl
      · unfold plV dueL
        cases e
        · apply Eq.trans
          walk_at "m st"
          rfl
        · apply Eq.trans
          walk_at "m st"
          rfl
  · obtain ⟨w, e, o, h⟩ := x
    cases o with
    | some v => have hb := List.find?_some hx; cases hb
    | none =>
      have m1 : (Str.ofString "bad index \"").length = 11 := by decide +kernel
      have m2 : (Str.ofString "\": must be integer?[+-]integer? or end?[+-]integer?").length = 51 := by decide +kernel
      have hw : w.length < 100 := hw _ hx
      (show ∃ ρ, ((Res.ofOpt p (bindP _ (.tuple [.str w, .bool e, .none, .bool h]) _)).bind _) = _)
      unfold dueS dueL
      refine ⟨dueL nm xs is (.val (.str (mk t))) (.own ps) (.val (.str w)) (.val (.bool e)) (.val .none) (.val (.bool h)) (.val (.str (indexMsg w))) (olv s.2.2.2.2), ?_⟩
      apply Eq.trans
      walk_at "m turn"
      rfl
  · have hc := hc h0
    refine ⟨dueS nm xs is t (L.map (Ix.pl t bI)) s', ?_⟩
    unfold dueS dueL
    walk_at "m st"
theorem d_due0 (N : NmF nm xs t bF bI) (hc : callP D0 (k + 2) "_law_made" [.val (.str nm), .val (.str (mk t)), .val (.list xs), .val (.list [])] p = .ok d p) : callP D0 (k + 3) "_law_due" [.val (.str nm), .val (.list xs), .val (.list [])] p = .ok (.tuple [.str "gave", d]) p :=
  d_due N [] (Nat.zero_le _) (fun x q => no_some (a := x) q) fun _ => hc
theorem d_due1 (N : NmF nm xs t bF bI) (hc : callP D0 (k + 2) "_law_made" [.val (.str nm), .val (.str (mk t)), .val (.list xs), .val (.list [.int (plV t bI e v)])] p = .ok d p) : callP D0 (k + 3) "_law_due" [.val (.str nm), .val (.list xs), .val (.list [idxT w e (some v) h])] p = .ok (.tuple [.str "gave", d]) p :=
  d_due N [⟨w, e, some v, h⟩] (Nat.le_of_ble_eq_true rfl) (fun x q => no_some (a := x) q) fun _ => hc
theorem d_due1n (N : NmF nm xs t bF bI) (hw : w.length < 100) : callP D0 (k + 3) "_law_due" [.val (.str nm), .val (.list xs), .val (.list [idxT w e none h])] p = .ok (rdR (indexMsg w) codeI) p :=
  d_due (d := .none) N [⟨w, e, none, h⟩] (Nat.le_of_ble_eq_true rfl) (fun x q => (Option.some.inj q : Ix.mk w e none h = x) ▸ hw) fun z => some_ne (a := Ix.mk w e none h) z
theorem d_due2e (N : NmF nm xs t bF bI) (hw : w.length < 100) : callP D0 (k + 3) "_law_due" [.val (.str nm), .val (.list xs), .val (.list [idxT w e none h, idxT w' e' ov h'])] p = .ok (rdR (indexMsg w) codeI) p :=
  d_due (d := .none) N [⟨w, e, none, h⟩, ⟨w', e', ov, h'⟩] (Nat.le_of_ble_eq_true rfl) (fun x q => (Option.some.inj q : Ix.mk w e none h = x) ▸ hw) fun z => some_ne (a := Ix.mk w e none h) z
theorem d_due2 (N : NmF nm xs t bF bI) (hc : callP D0 (k + 2) "_law_made" [.val (.str nm), .val (.str (mk t)), .val (.list xs), .val (.list [.int (plV t bI e v), .int (plV t bI e' v')])] p = .ok d p) : callP D0 (k + 3) "_law_due" [.val (.str nm), .val (.list xs), .val (.list [idxT w e (some v) h, idxT w' e' (some v') h'])] p = .ok (.tuple [.str "gave", d]) p :=
  d_due N [⟨w, e, some v, h⟩, ⟨w', e', some v', h'⟩] (Nat.le_of_ble_eq_true rfl) (fun x q => no_some (a := x) q) fun _ => hc
theorem d_due2n (N : NmF nm xs t bF bI) (hw : w'.length < 100) : callP D0 (k + 3) "_law_due" [.val (.str nm), .val (.list xs), .val (.list [idxT w e (some v) h, idxT w' e' none h'])] p = .ok (rdR (indexMsg w') codeI) p :=
  d_due (d := .none) N [⟨w, e, some v, h⟩, ⟨w', e', none, h'⟩] (Nat.le_of_ble_eq_true rfl) (fun x q => (Option.some.inj q : Ix.mk w' e' none h' = x) ▸ hw) fun z => some_ne (a := Ix.mk w' e' none h') z
end
end

section
theorem filt_range (t : List Nat) (lo hi : Nat) : ((List.range t.length).filter fun k => decide (lo ≤ k) && decide (k < hi)).map (fun k => t.getD k 0) = (t.take hi).drop lo := by
  have key : ∀ n, n ≤ t.length → ((List.range n).filter fun k => decide (lo ≤ k) && decide (k < hi)).map (fun k => t.getD k 0) = ((t.take n).take hi).drop lo := by
    intro n
    induction n with
    | zero => intro _; simp
    | succ n ih =>
      intro h
      have hn : n < t.length := by lia
      rw [List.range_succ, List.filter_append, List.map_append, ih (by lia), List.take_succ_eq_append_getElem hn]
      have hg : t.getD n 0 = t[n] := by simp [hn]
      by_cases h2 : n < hi
      · rw [List.take_of_length_le (l := t.take n ++ [t[n]]) (by simp; lia), List.take_of_length_le (l := t.take n) (by simp; lia)]
        by_cases h1 : lo ≤ n
        · rw [List.drop_append_of_le_length (by simp; lia)]
          rw [← hg]; simp [h1, h2]
        · rw [List.drop_eq_nil_of_le (by simp; lia), List.drop_eq_nil_of_le (by simp; lia)]
          simp [h1]
      · rw [List.take_append_of_le_length (by simp; lia)]
        simp [h2]
  have := key t.length (Nat.le_refl _)
  rw [List.take_length] at this
  exact this
theorem idx_eq {t : List Nat} {v : Int} : sIndex t v = mk (idxL t v) := by
  unfold sIndex idxL
  by_cases h : v < 0
  · rw [if_pos (.inl h), nil_eq]
    congr 1
    rw [List.filter_eq_nil_iff.mpr (by intro k _; simp; omega)]; rfl
  · have e : ((List.range t.length).filter fun (k : Nat) => decide (0 + (k : Int) = v)) = (List.range t.length).filter fun k => decide (v.toNat ≤ k) && decide (k < v.toNat + 1) := by
      apply List.filter_congr
      intro k _
      rw [Bool.eq_iff_iff]; simp; omega
    rw [e, filt_range]
    by_cases h2 : v ≥ t.length
    · rw [if_pos (.inr h2), nil_eq]
      congr 1
      rw [List.drop_eq_nil_of_le (by simp; omega)]
    · rw [if_neg (by omega)]
      congr 1
      have hv : v.toNat < t.length := by omega
      rw [List.take_succ_eq_append_getElem hv, List.drop_append_of_le_length (by simp; omega), List.drop_eq_nil_of_le (by simp; omega)]
      simp [hv]
theorem rng_eq {t : List Nat} {u v : Int} : sRange t u v = mk (rngL t u v) := by
  unfold sRange rngL
  have e : ((List.range t.length).filter fun (k : Nat) => decide (u ≤ 0 + (k : Int)) && decide (0 + (k : Int) ≤ v)) = (List.range t.length).filter fun k => decide ((max u 0).toNat ≤ k) && decide (k < (v + 1).toNat) := by
    apply List.filter_congr
    intro k _
    rw [Bool.eq_iff_iff]; simp; omega
  rw [e, filt_range]
  by_cases h : v < max u 0
  · rw [if_pos h, nil_eq]
    congr 1
    rw [List.drop_eq_nil_of_le (by simp; omega)]
  · rw [if_neg h]
theorem ins_eq {t b : List Nat} {v : Int} : sInsert t b v = t.take (insA t v) ++ b ++ t.drop (insA t v) := by
  unfold sInsert insA
  by_cases h : max v 0 ≤ (t.length : Int)
  · rw [show min (max v 0) (t.length : Int) = max v 0 from by lia]
  · rw [show min (max v 0) (t.length : Int) = (t.length : Int) from by lia]
    rw [List.take_of_length_le (by lia), List.drop_eq_nil_of_le (by lia), List.take_of_length_le (by lia), List.drop_eq_nil_of_le (by lia)]
theorem rp_eq {t b : List Nat} {u v : Int} : rpF t u v b = rpL t u v b := rfl
theorem cut_len {t a : List Nat} {k : Nat} (h : cutF t a k = a) (ha : a ≠ []) : k + a.length ≤ t.length := by
  have := congrArg List.length h
  unfold cutF at this
  rw [List.length_drop, List.length_take] at this
  have h1 : 0 < a.length := List.length_pos_iff.mpr ha
  lia
theorem occ_iff {a t : List Nat} {z : Int} : z ∈ occF a t ↔ ∃ k : Nat, z = k ∧ a ≠ [] ∧ cutF t a k = a := by
  unfold occF occQ
  constructor
  · intro h
    obtain ⟨k, hk, rfl⟩ := List.mem_map.mp h
    have h2 := (List.mem_filter.mp hk).2
    simp only [Bool.and_eq_true, decide_eq_true_eq] at h2
    refine ⟨k, rfl, ?_, h2.2⟩
    rintro rfl; simp at h2
  · rintro ⟨k, rfl, h1, h2⟩
    refine List.mem_map.mpr ⟨k, List.mem_filter.mpr ⟨List.mem_range.mpr ?_, ?_⟩, rfl⟩
    · have := cut_len h2 h1
      have h3 : 0 < a.length := List.length_pos_iff.mpr h1
      lia
    · rw [h2, decide_eq_true rfl, Bool.and_true]
      cases a <;> first | exact absurd rfl h1 | rfl
theorem occ_sorted (a t : List Nat) : (occF a t).Pairwise (· < ·) := by
  unfold occF
  rw [List.pairwise_map]
  exact (List.Pairwise.filter _ List.pairwise_lt_range).imp fun h => by lia
theorem head_min {L : List Int} (hs : L.Pairwise (· < ·)) {x : Int} (hx : x ∈ L) (hm : ∀ y ∈ L, x ≤ y) : L.head? = some x := by
  cases L with
  | nil => cases hx
  | cons a r =>
    have h1 := hm a (.head _)
    rcases List.mem_cons.mp hx with rfl | h2
    · rfl
    · have := (List.pairwise_cons.mp hs).1 x h2; lia
theorem last_max {L : List Int} (hs : L.Pairwise (· < ·)) {x : Int} (hx : x ∈ L) (hm : ∀ y ∈ L, y ≤ x) : L.getLast? = some x := by
  induction L with
  | nil => cases hx
  | cons a r ih =>
    obtain ⟨h1, h2⟩ := List.pairwise_cons.mp hs
    cases r with
    | nil => rcases List.mem_cons.mp hx with rfl | h; rfl; cases h
    | cons b s =>
      have : x ∈ b :: s := by
        rcases List.mem_cons.mp hx with rfl | h
        · have := h1 b (.head _); have := hm b (.tail _ (.head _)); lia
        · exact h
      rw [List.getLast?_cons_cons]
      exact ih h2 this fun y hy => hm y (.tail _ hy)
theorem resF_none : resF none = strI (-1) := by decide +kernel
theorem res_nil {L : List Int} (h : ∀ z, z ∉ L) : resF L.head? = strI (-1) ∧ resF L.getLast? = strI (-1) := by
  rw [List.eq_nil_iff_forall_not_mem.mpr h]; exact ⟨resF_none, resF_none⟩
theorem first_eq {a t : List Nat} {v : Int} {L : List Int} (hs : L.Pairwise (· < ·)) (hL : ∀ z, z ∈ L ↔ z ∈ occF a t ∧ v ≤ z) : strI (faF a t v) = resF L.head? := by
  unfold faF
  have hA := seek_spec (q := fun i => decide (v.toNat + i + a.length ≤ t.length)) (f := fun i => v.toNat + i) (N := faN a t v.toNat) rfl
  generalize faN a t v.toNat = N at hA
  by_cases ha : a = []
  · rw [if_pos ha]
    exact (res_nil fun z hz => (occ_iff.mp ((hL z).mp hz).1).elim fun k h => h.2.1 ha).1.symm
  rw [if_neg ha]
  have no : ∀ z, z ∈ L → ∃ k : Nat, z = k ∧ v.toNat + N ≤ k ∧ cutF t a k = a := by
    intro z hz
    obtain ⟨hy1, hy2⟩ := (hL z).mp hz
    obtain ⟨k, rfl, _, hk⟩ := occ_iff.mp hy1
    refine ⟨k, rfl, Nat.le_of_not_lt fun hlt => ?_, hk⟩
    have hv := Int.toNat_le.mpr hy2
    refine (hA.2.1 (k - v.toNat) (by lia)).2 ?_
    show cutF t a (v.toNat + (k - v.toNat)) = a
    rw [Nat.add_sub_cancel' hv]; exact hk
  by_cases hF : v.toNat + N + a.length ≤ t.length
  · rw [if_pos hF]
    have hq := hA.2.2 (by lia) (decide_eq_true hF)
    rw [head_min hs ((hL _).mpr ⟨occ_iff.mpr ⟨v.toNat + N, rfl, ha, hq⟩, by lia⟩) fun z hz => (no z hz).elim fun k h => h.1 ▸ Int.ofNat_le.mpr h.2.1]
    rfl
  · rw [if_neg hF]
    refine (res_nil fun z hz => ?_).1.symm
    obtain ⟨k, rfl, h1, h2⟩ := no z hz
    have := cut_len h2 ha
    lia
theorem last_eq {a t : List Nat} {v : Int} {L : List Int} (hs : L.Pairwise (· < ·)) (hL : ∀ z, z ∈ L ↔ z ∈ occF a t ∧ z ≤ laT a t v) : strI (laF a t v) = resF L.getLast? := by
  unfold laF
  have hT := laT_le (a := a) (l := t) (last := v)
  have hA := seek_spec (q := fun j => decide ((j : Int) ≤ laT a t v)) (f := fun j => (laT a t v).toNat - j) (N := laN a t (laT a t v)) rfl
  generalize laN a t (laT a t v) = N at hA
  generalize laT a t v = T at *
  by_cases ha : a = []
  · rw [if_pos ha]
    exact (res_nil fun z hz => (occ_iff.mp ((hL z).mp hz).1).elim fun k h => h.2.1 ha).2.symm
  rw [if_neg ha]
  have no : ∀ z, z ∈ L → ∃ k : Nat, z = k ∧ z ≤ T - N := by
    intro z hz
    obtain ⟨hy1, hy2⟩ := (hL z).mp hz
    obtain ⟨k, rfl, _, hk⟩ := occ_iff.mp hy1
    refine ⟨k, rfl, Int.not_lt.mp fun hlt => ?_⟩
    refine (hA.2.1 (T.toNat - k) (by omega)).2 ?_
    show cutF t a (T.toNat - (T.toNat - k)) = a
    rw [Nat.sub_sub_self (by omega)]; exact hk
  by_cases hF : (N : Int) ≤ T
  · rw [if_pos hF]
    have hq := hA.2.2 (by omega) (decide_eq_true hF)
    rw [last_max hs ((hL _).mpr ⟨occ_iff.mpr ⟨T.toNat - N, by omega, ha, hq⟩, by omega⟩) fun z hz => (no z hz).elim fun k h => h.2]
    rfl
  · rw [if_neg hF]
    refine (res_nil fun z hz => ?_).2.symm
    obtain ⟨k, rfl, h1⟩ := no z hz
    omega
theorem seek_first1 {a t : List Nat} {v : Int} : strI (faF a t v) = resF (seekF "first" a t [v]).head? := by
  refine first_eq (v := v) ?_ ?_
  · exact (occ_sorted a t).filter _
  · intro z
    show z ∈ (occF a t).filter (fun k => decide (k ≥ v)) ↔ _
    rw [List.mem_filter, decide_eq_true_eq]
theorem seek_first0 {a t : List Nat} : strI (faF a t 0) = resF (seekF "first" a t []).head? := by
  refine first_eq (v := 0) (occ_sorted a t) fun z => ⟨fun h => ⟨h, ?_⟩, fun h => h.1⟩
  obtain ⟨k, rfl, _⟩ := occ_iff.mp h; lia
theorem seek_last1 {a t : List Nat} {v : Int} : strI (laF a t v) = resF (seekF "last" a t [v]).getLast? := by
  have e : seekF "last" a t [v] = (occF a t).filter fun k => decide (k + a.length ≤ v + 1) := by
    unfold seekF
    rw [show decide (Str.ofString "last" = Str.ofString "first") = false from by decide +kernel]; rfl
  rw [e]
  refine last_eq (v := v) ((occ_sorted a t).filter _) fun z => ?_
  rw [List.mem_filter, decide_eq_true_eq]
  constructor
  · rintro ⟨h1, h2⟩
    refine ⟨h1, ?_⟩
    obtain ⟨k, rfl, hk, hc⟩ := occ_iff.mp h1
    have := cut_len hc hk
    unfold laT; split <;> lia
  · rintro ⟨h1, h2⟩
    refine ⟨h1, ?_⟩
    unfold laT at h2; split at h2 <;> lia
theorem seek_last0 {a t : List Nat} : strI (laF a t ((t.length : Int) - 1)) = resF (seekF "last" a t []).getLast? := by
  refine last_eq (v := (t.length : Int) - 1) (occ_sorted a t) fun z => ⟨fun h => ⟨h, ?_⟩, fun h => h.1⟩
  obtain ⟨k, rfl, hk, hc⟩ := occ_iff.mp h
  have := cut_len hc hk
  unfold laT; split <;> lia
end

section
theorem lead_congr {q q' : Nat → Bool} (h : ∀ i, q i = q' i) (k i : Nat) : lead q k i = lead q' k i := by
  have : q = q' := funext h
  rw [this]
theorem alpha_def : ∀ u ∈ alpha, inS defTrim u = inS " \n" u := by
  intro u hu
  simp only [alpha, List.mem_cons, List.not_mem_nil, or_false] at hu
  rcases hu with rfl | rfl | rfl | rfl | rfl | rfl | rfl <;> decide +kernel
theorem getD_mem {t : List Nat} {i : Nat} (h : i < t.length) : t.getD i 0 ∈ t := by
  have : t.getD i 0 = t[i] := by simp [h]
  rw [this]; exact List.getElem_mem h
theorem tlA_def {t : List Nat} (ht : ∀ u ∈ t, u ∈ alpha) : tlA defTrim t = tlA " \n" t := by
  unfold tlA
  apply lead_congr
  intro i
  by_cases h : i < t.length
  · rw [alpha_def _ (ht _ (getD_mem h))]
  · rw [decide_eq_false h, Bool.false_and, Bool.false_and]
theorem trN_def {t : List Nat} (ht : ∀ u ∈ t, u ∈ alpha) : trN defTrim t = trN " \n" t := by
  unfold trN
  apply lead_congr
  intro i
  by_cases h : 0 < t.length - i
  · rw [alpha_def _ (ht _ (getD_mem (by omega)))]
  · rw [decide_eq_false h, Bool.false_and, Bool.false_and]
theorem ttF_def {t : List Nat} (ht : ∀ u ∈ t, u ∈ alpha) : ttF defTrim t = ttF " \n" t := by
  unfold ttF
  rw [tlA_def ht, trN_def fun u hu => ht u (List.mem_of_mem_drop hu)]
theorem kept_iff {s : Str} {t : List Nat} {z : Int} : z ∈ keptF s t ↔ ∃ k : Nat, z = k ∧ k < t.length ∧ inS s (t.getD k 0) = false := by
  unfold keptF
  constructor
  · intro h
    obtain ⟨k, hk, rfl⟩ := List.mem_map.mp h
    obtain ⟨h1, h2⟩ := List.mem_filter.mp hk
    exact ⟨k, rfl, List.mem_range.mp h1, by simpa using h2⟩
  · rintro ⟨k, rfl, h1, h2⟩
    exact List.mem_map.mpr ⟨k, List.mem_filter.mpr ⟨List.mem_range.mpr h1, by rw [h2]; rfl⟩, rfl⟩
theorem kept_sorted (s : Str) (t : List Nat) : (keptF s t).Pairwise (· < ·) := by
  unfold keptF
  rw [List.pairwise_map]
  exact (List.Pairwise.filter _ List.pairwise_lt_range).imp fun h => by omega
theorem tlA_spec (s : Str) (t : List Nat) : tlA s t ≤ t.length ∧ (∀ j, j < tlA s t → inS s (t.getD j 0) = true) ∧ (tlA s t < t.length → inS s (t.getD (tlA s t) 0) = false) := by
  have hA := lead_spec (fun i => decide (i < t.length) && inS s (t.getD i 0)) t.length 0
  refine ⟨by unfold tlA; omega, fun j hj => ?_, fun h => ?_⟩
  · have hq := hA.2.2.1 j (Nat.zero_le _) hj
    simp only [Bool.and_eq_true] at hq
    exact hq.2
  · have hq := hA.2.2.2 (by unfold tlA at h; omega)
    have hq : (decide (tlA s t < t.length) && inS s (t.getD (tlA s t) 0)) = false := hq
    rw [decide_eq_true h, Bool.true_and] at hq
    exact hq
theorem trN_spec (s : Str) (t : List Nat) : trN s t ≤ t.length ∧ (∀ j, j < trN s t → inS s (t.getD (t.length - j - 1) 0) = true) ∧ (trN s t < t.length → inS s (t.getD (t.length - trN s t - 1) 0) = false) := by
  have hA := lead_spec (fun j => decide (0 < t.length - j) && inS s (t.getD (t.length - j - 1) 0)) t.length 0
  refine ⟨by unfold trN; omega, fun j hj => ?_, fun h => ?_⟩
  · have hq := hA.2.2.1 j (Nat.zero_le _) hj
    simp only [Bool.and_eq_true] at hq
    exact hq.2
  · have hq := hA.2.2.2 (by unfold trN at h; omega)
    have hq : (decide (0 < t.length - trN s t) && inS s (t.getD (t.length - trN s t - 1) 0)) = false := hq
    rw [decide_eq_true (by omega), Bool.true_and] at hq
    exact hq
theorem tl_head {s : Str} {t : List Nat} {z : Int} (h : (keptF s t).head? = some z) : z = (tlA s t : Nat) := by
  have hm : z ∈ keptF s t := by
    cases hk : keptF s t with
    | nil => rw [hk] at h; cases h
    | cons a r => rw [hk] at h; cases h; exact .head _
  obtain ⟨k, rfl, hk, hi⟩ := kept_iff.mp hm
  obtain ⟨h1, h2, h3⟩ := tlA_spec s t
  have hle : tlA s t ≤ k := by
    apply Decidable.byContradiction
    intro q
    rw [h2 k (by lia)] at hi; cases hi
  have hmem : ((tlA s t : Nat) : Int) ∈ keptF s t := kept_iff.mpr ⟨_, rfl, by lia, h3 (by lia)⟩
  have := head_min (kept_sorted s t) hmem (fun y hy => by
    obtain ⟨j, rfl, hj, hji⟩ := kept_iff.mp hy
    have : tlA s t ≤ j := by
      apply Decidable.byContradiction
      intro q
      rw [h2 j (by lia)] at hji; cases hji
    lia)
  rw [this] at h
  cases h; rfl
theorem tl_nil {s : Str} {t : List Nat} (h : keptF s t = []) : tlA s t = t.length := by
  obtain ⟨h1, h2, h3⟩ := tlA_spec s t
  apply Decidable.byContradiction
  intro q
  have : ((tlA s t : Nat) : Int) ∈ keptF s t := kept_iff.mpr ⟨_, rfl, by lia, h3 (by lia)⟩
  rw [h] at this; cases this
theorem tr_at {s : Str} {t : List Nat} {k d : Nat} (hk : t.length = k + 1 + d) (hi : inS s (t.getD k 0) = false) (hall : ∀ j, k < j → j < t.length → inS s (t.getD j 0) = true) : trN s t = d := by
  obtain ⟨h1, h2, h3⟩ := trN_spec s t
  generalize trN s t = N at *
  have back : ∀ j, t.length - j - 1 = k + d - j := fun j => by rw [hk, Nat.sub_right_comm]; exact congrArg (· - j) (by rw [Nat.add_right_comm]; rfl)
  rcases Nat.lt_trichotomy N d with q | q | q
  · have e := h3 (by rw [hk]; exact Nat.lt_of_lt_of_le q (Nat.le_add_left _ _))
    rw [back, Nat.add_sub_assoc (Nat.le_of_lt q)] at e
    have := hall (k + (d - N)) (Nat.lt_add_of_pos_right (Nat.sub_pos_of_lt q)) (by rw [hk, Nat.add_right_comm]; exact Nat.lt_succ_of_le (Nat.add_le_add_left (Nat.sub_le _ _) k))
    rw [this] at e; cases e
  · exact q
  · have e := h2 d q
    rw [back, Nat.add_sub_cancel, hi] at e; cases e
theorem last_le {L : List Int} {y : Int} (hs : L.Pairwise (· < ·)) (hy : L.getLast? = some y) : ∀ z ∈ L, z ≤ y := by
  induction L with
  | nil => cases hy
  | cons a r ih =>
    obtain ⟨q1, q2⟩ := List.pairwise_cons.mp hs
    intro z hz
    cases r with
    | nil => cases hy; cases hz with
      | head => exact Int.le_refl _
      | tail _ m => cases m
    | cons b r =>
      rw [List.getLast?_cons_cons] at hy
      cases hz with
      | head => exact Int.le_of_lt (q1 _ (List.mem_of_getLast? hy))
      | tail _ m => exact ih q2 hy z m
theorem kept_last {s : Str} {t : List Nat} {y : Int} (h : (keptF s t).getLast? = some y) : ∃ Y d : Nat, y = Y ∧ t.length = Y + 1 + d ∧ inS s (t.getD Y 0) = false ∧ ∀ j, Y < j → j < t.length → inS s (t.getD j 0) = true := by
  obtain ⟨Y, rfl, hY, hi⟩ := kept_iff.mp (List.mem_of_getLast? h)
  obtain ⟨d, hd⟩ := Nat.exists_eq_add_of_le hY
  refine ⟨Y, d, rfl, hd, hi, fun j h1 h2 => ?_⟩
  cases hj : inS s (t.getD j 0) with
  | true => rfl
  | false => exact absurd (Int.ofNat_le.mp (last_le (kept_sorted s t) h _ (kept_iff.mpr ⟨j, rfl, h2, hj⟩))) (Nat.not_le.mpr h1)
theorem tr_last {s : Str} {t : List Nat} {y : Int} (h : (keptF s t).getLast? = some y) : y + 1 = ((t.length - trN s t : Nat) : Int) := by
  obtain ⟨Y, d, rfl, hd, hi, ha⟩ := kept_last h
  rw [tr_at hd hi ha, hd, Nat.add_sub_cancel]; rfl
theorem tr_nil {s : Str} {t : List Nat} (h : keptF s t = []) : t.length - trN s t = 0 := by
  obtain ⟨h1, h2, h3⟩ := trN_spec s t
  apply Decidable.byContradiction
  intro q
  have : ((t.length - trN s t - 1 : Nat) : Int) ∈ keptF s t := kept_iff.mpr ⟨_, rfl, by omega, h3 (by omega)⟩
  rw [h] at this; cases this
theorem trim_left_eq {s : Str} {t : List Nat} : t.drop (tlA s t) = tdF "trimleft" s t := by
  unfold tdF
  cases hk : (keptF s t).head? with
  | none =>
    have : keptF s t = [] := List.head?_eq_none_iff.mp hk
    rw [tl_nil this, List.drop_eq_nil_of_le (Nat.le_refl _)]
  | some z =>
    obtain ⟨y, hy⟩ : ∃ y, (keptF s t).getLast? = some y := by
      cases h : keptF s t with
      | nil => rw [h] at hk; cases hk
      | cons a r => exact ⟨_, List.getLast?_eq_some_getLast (List.cons_ne_nil a r)⟩
    rw [hy]
    have := tl_head hk
    subst this
    have e1 : tdA "trimleft" ((tlA s t : Nat) : Int) = (tlA s t : Nat) := by
      unfold tdA; rw [show decide (Str.ofString "trimleft" = Str.ofString "trimright") = false from by decide +kernel]; rfl
    have e2 : tdB "trimleft" t y = t.length := by
      unfold tdB; rw [show decide (Str.ofString "trimleft" = Str.ofString "trimleft") = true from by decide +kernel]; rfl
    simp only [e1, e2]
    rw [show ((t.length : Int)).toNat = t.length from by lia, List.take_length, show (((tlA s t : Nat) : Int)).toNat = tlA s t from by lia]
theorem trim_right_eq {s : Str} {t : List Nat} : t.take (t.length - trN s t) = tdF "trimright" s t := by
  unfold tdF
  cases hk : (keptF s t).getLast? with
  | none =>
    have : keptF s t = [] := List.getLast?_eq_none_iff.mp hk
    rw [tr_nil this, this]; rfl
  | some y =>
    obtain ⟨z, hz⟩ : ∃ z, (keptF s t).head? = some z := by
      cases h : keptF s t with
      | nil => rw [h] at hk; cases hk
      | cons a r => exact ⟨a, rfl⟩
    rw [hz]
    have := tr_last hk
    have e1 : tdA "trimright" z = 0 := by
      unfold tdA; rw [show decide (Str.ofString "trimright" = Str.ofString "trimright") = true from by decide +kernel]; rfl
    have e2 : tdB "trimright" t y = y + 1 := by
      unfold tdB; rw [show decide (Str.ofString "trimright" = Str.ofString "trimleft") = false from by decide +kernel]; rfl
    simp only [e1, e2, this]
    rw [show (((t.length - trN s t : Nat) : Int)).toNat = t.length - trN s t from by lia]
    rfl
theorem trim_eq {s : Str} {t : List Nat} : ttF s t = tdF "trim" s t := by
  unfold ttF tdF
  cases hk : (keptF s t).head? with
  | none =>
    have : keptF s t = [] := List.head?_eq_none_iff.mp hk
    rw [tl_nil this, List.drop_eq_nil_of_le (Nat.le_refl _)]; rfl
  | some z =>
    obtain ⟨y, hy⟩ : ∃ y, (keptF s t).getLast? = some y := by
      cases h : keptF s t with
      | nil => rw [h] at hk; cases hk
      | cons a r => exact ⟨_, List.getLast?_eq_some_getLast (List.cons_ne_nil a r)⟩
    rw [hy]
    have := tl_head hk
    subst this
    have e1 : tdA "trim" ((tlA s t : Nat) : Int) = (tlA s t : Nat) := by
      unfold tdA; rw [show decide (Str.ofString "trim" = Str.ofString "trimright") = false from by decide +kernel]; rfl
    have e2 : tdB "trim" t y = y + 1 := by
      unfold tdB; rw [show decide (Str.ofString "trim" = Str.ofString "trimleft") = false from by decide +kernel]; rfl
    simp only [e1, e2]
    have hyz := kept_le hk hy
    obtain ⟨Y, d, rfl, hd, hi, ha⟩ := kept_last hy
    obtain ⟨m, rfl⟩ := Nat.exists_eq_add_of_le (Int.ofNat_le.mp hyz)
    generalize tlA s t = A at *
    have hgd : ∀ j, (t.drop A).getD j 0 = t.getD (A + j) 0 := by intro j; simp [List.getD, List.getElem?_drop]
    have hl : (t.drop A).length = m + 1 + d := by rw [List.length_drop, hd, Nat.add_assoc A, Nat.add_assoc A, Nat.add_sub_cancel_left]
    have e : trN s (t.drop A) = d := tr_at hl (by rw [hgd]; exact hi) fun j h1 h2 => by
      rw [hgd]
      exact ha _ (Nat.add_lt_add_left h1 A) (by rw [List.length_drop] at h2; exact Nat.add_comm A j ▸ Nat.add_lt_of_lt_sub h2)
    rw [e, hl, Nat.add_sub_cancel, Int.toNat_natCast, show (((A + m : Nat) : Int) + 1).toNat = A + m + 1 from rfl, List.drop_take, Nat.add_assoc, Nat.add_sub_cancel_left]
theorem mul_fold : ∀ (n : Nat) (t : List Nat) (a : List Nat), (List.replicate n t.toArray).foldl (· ++ ·) a.toArray = (a ++ (List.replicate n t).flatten).toArray
  | 0, t, a => by simp
  | n + 1, t, a => by
    rw [List.replicate_succ, List.foldl_cons, List.append_toArray, mul_fold n t (a ++ t), List.replicate_succ, List.flatten_cons, List.append_assoc]
theorem rep_eq {t : List Nat} {v : Int} : sRepeat t v = mk (List.replicate v.toNat t).flatten := by
  unfold sRepeat
  by_cases h : v < 1 ∨ t = []
  · rw [if_pos h, nil_eq]
    congr 1
    rcases h with h | rfl
    · rw [show v.toNat = 0 from by lia]; rfl
    · simp
  · rw [if_neg h]
    have h1 : ¬ v < 1 := fun q => h (.inl q)
    unfold Txt.mul
    rw [if_neg h1]
    by_cases h2 : (v == 1 || (mk t).length == 0) = true
    · rw [if_pos h2]
      simp only [Bool.or_eq_true, beq_iff_eq, mk_length] at h2
      rcases h2 with rfl | h2
      · show mk t = mk _; congr 1; simp
      · exact absurd (List.eq_nil_of_length_eq_zero h2) fun q => h (.inr q)
    · rw [if_neg h2]
      have := mul_fold v.toNat t []
      simp only [List.nil_append] at this
      show (⟨(List.replicate v.toNat t.toArray).foldl (· ++ ·) #[]⟩ : Str) = _
      rw [this]; rfl
end

section
theorem flat_idx {w : Str} {e h : Bool} {v : Option Int} : flat (idxT w e v h) = true := by cases v <;> rfl
noncomputable def RrP (R : Res PyData) : Prop := ∃ i' : Int, R = .ok (.bool true) (some i')
theorem lay_strs : ∀ ws : List Str, (∀ w ∈ ws, PyData.strOk w = true) → PyData.canLayAll0 (ws.map PyData.str) = true
  | [], _ => rfl
  | w :: r, h => by
    simp only [List.map_cons, PyData.canLayAll0, PyData.canLay0, h w (.head _), lay_strs r fun x m => h x (.tail _ m), Bool.and_self]
theorem dep_strs : ∀ ws : List Str, PyData.depthAll (ws.map PyData.str) ≤ 1
  | [] => by simp [PyData.depthAll]
  | w :: r => by simp only [List.map_cons, PyData.depthAll, PyData.depth]; have := dep_strs r; lia
theorem eqv_strs : ∀ ws : List Str, PyData.eqvAll (ws.map PyData.str) (ws.map PyData.str) = true
  | [] => rfl
  | w :: r => by simp only [List.map_cons, PyData.eqvAll, PyData.eqv, beq_self_eq_true, eqv_strs r, Bool.and_self]
theorem eq_strs {ws : List Str} (h : ∀ w ∈ ws, PyData.strOk w = true) : cmpP .Eq (.list (ws.map PyData.str)) (.list (ws.map PyData.str)) = some true := by
  have e : eqOk (.list (ws.map PyData.str)) (.list (ws.map PyData.str)) = true := by
    unfold eqOk
    have a : PyData.canLay0 (.list (ws.map PyData.str)) = true := by rw [PyData.canLay0]; exact lay_strs ws h
    rw [a]
    have c : PyData.depth (.list (ws.map PyData.str)) ≤ 64 := by
      rw [PyData.depth]; have := dep_strs ws; lia
    exact decide_eq_true (by lia)
  show (match eqOk (.list (ws.map PyData.str)) (.list (ws.map PyData.str)) with | true => some (PyData.eqv (.list (ws.map PyData.str)) (.list (ws.map PyData.str))) | false => none) = _
  rw [e]
  show some (PyData.eqv (.list (ws.map PyData.str)) (.list (ws.map PyData.str))) = _
  rw [PyData.eqv, eqv_strs]
theorem eq_gave {x : Str} (h : PyData.strOk x = true) : cmpP .Eq (.tuple [.str "gave", .str x]) (.tuple [.str "gave", .str x]) = some true := by
  have g : PyData.strOk (Str.ofString "gave") = true := by decide +kernel
  have e : eqOk (.tuple [.str "gave", .str x]) (.tuple [.str "gave", .str x]) = true := by
    unfold eqOk
    have a : PyData.canLay0 (.tuple [.str "gave", .str x]) = true := by simp only [PyData.canLay0, PyData.canLayAll0, g, h, Bool.and_self]
    rw [a]
    have c : PyData.depth (.tuple [.str "gave", .str x]) ≤ 64 := by simp only [PyData.depth, PyData.depthAll]; decide
    exact decide_eq_true (by omega)
  show (match eqOk (.tuple [.str "gave", .str x]) (.tuple [.str "gave", .str x]) with | true => some (PyData.eqv (.tuple [.str "gave", .str x]) (.tuple [.str "gave", .str x])) | false => none) = _
  rw [e]
  simp only [PyData.eqv, PyData.eqvAll, beq_self_eq_true, Bool.and_self]
theorem eq_rd {m : Str} {ws : List Str} (h : PyData.strOk m = true) (hw : ∀ w ∈ ws, PyData.strOk w = true) : cmpP .Eq (rdR m (.tuple (ws.map PyData.str))) (rdR m (.tuple (ws.map PyData.str))) = some true := by
  unfold rdR
  have g : PyData.strOk (Str.ofString "raised") = true := by decide +kernel
  have e : eqOk (.tuple [.str "raised", .int 1, .str m, .tuple (ws.map PyData.str)]) (.tuple [.str "raised", .int 1, .str m, .tuple (ws.map PyData.str)]) = true := by
    unfold eqOk
    have a : PyData.canLay0 (.tuple [.str "raised", .int 1, .str m, .tuple (ws.map PyData.str)]) = true := by simp only [PyData.canLay0, PyData.canLayAll0, g, h, lay_strs ws hw, Bool.and_self]
    rw [a]
    have c : PyData.depth (.tuple [.str "raised", .int 1, .str m, .tuple (ws.map PyData.str)]) ≤ 64 := by
      simp only [PyData.depth, PyData.depthAll]; have := dep_strs ws; lia
    exact decide_eq_true (by lia)
  show (match eqOk (.tuple [.str "raised", .int 1, .str m, .tuple (ws.map PyData.str)]) (.tuple [.str "raised", .int 1, .str m, .tuple (ws.map PyData.str)]) with | true => some (PyData.eqv (.tuple [.str "raised", .int 1, .str m, .tuple (ws.map PyData.str)]) (.tuple [.str "raised", .int 1, .str m, .tuple (ws.map PyData.str)])) | false => none) = _
  rw [e]
  simp only [PyData.eqv, PyData.eqvAll, beq_self_eq_true, eqv_strs, Bool.and_self]
theorem good_ok {r : List Nat} (h : Good r) : PyData.strOk (mk r) = true := by
  unfold PyData.strOk mk
  rw [Array.all_eq_true']
  intro u hu
  have hm := h.2 u (by simpa using hu)
  have : ∀ u ∈ alpha, decide (u < 0x110000) = true := by decide
  exact this u hm
local macro_rules | `(tactic| walk_at "m x") => `(tactic| ((with_reducible apply x_append); (kernel_rfl); (walk_at "m lk"); (walk_at "m ev"); (exact flat_idx); (walk_at "m lx"); (walk_at "m put")))
noncomputable def roL (R w t i s kp : LV) : Loc := [("row", R), ("pen", .pen), ("words", w), ("texts", t), ("indices", i), ("sort", s), ("kept", kp), ("_law_turned", .glob), ("len", .glob), ("_law_index", .glob), ("list", .glob), ("_law_heard", .glob), ("_law_due", .glob)]

noncomputable def roS (R : PyData) (W T I : List PyData) (s kp : LV) : Loc := roL (.val R) (.own W) (.own T) (.own I) s kp
/-- what the turns have made so far -/
structure Made where
  rs : List (List Nat)
  xs : List Wd
  ws : List Str
noncomputable def Made.text (a : Made) (r : List Nat) : Made := ⟨a.rs ++ [r], a.xs, a.ws ++ [Mine.mk r]⟩
noncomputable def Made.idx (a : Made) (x : Wd) : Made := ⟨a.rs, a.xs ++ [x], a.ws ++ [x.1]⟩
noncomputable def Ixf (x : Wd) : Prop := IxF x.1 x.2.1 x.2.2.1 x.2.2.2
noncomputable def Built : List Bool → Made → Made → Prop
  | [], a, b => a = b
  | c :: s, a, b => match c with
    | true => ∃ r, Good r ∧ Built s (a.text r) b
    | false => ∃ x, Ixf x ∧ Built s (a.idx x) b
noncomputable def fits (m n : Nat) : List Bool → Nat → Nat → Bool
  | [], _, _ => true
  | c :: s, i, j => match c with
    | true => decide (i < m) && fits m n s (i + 1) j
    | false => decide (j < n) && fits m n s i (j + 1)
noncomputable def srt (c : Bool) : Nat := cond c 116 105
noncomputable def strsD (ws : List Str) : List PyData := ws.map PyData.str
noncomputable def textsD (rs : List (List Nat)) : List PyData := rs.map fun r => PyData.str (mk r)
noncomputable def idxsD (xs : List Wd) : List PyData := xs.map tw
noncomputable def roM (R : PyData) (a : Made) (o : Option PyData) : Loc := roS R (strsD a.ws) (textsD a.rs) (idxsD a.xs) (olv o) .unb
noncomputable def trip (x : Int × Int × Int) : PyData := .tuple [.int x.1, .int x.2.1, .int x.2.2]
noncomputable def rowV (nm : Str) (so : List Bool) (Ts : List (List Nat)) (Is : List (Int × Int × Int)) : PyData := .tuple [.str nm, .str (mk (so.map srt)), .list (textsD Ts), .list (Is.map trip)]
theorem rr_loop {bd : PyData → Loc → Option Int → Res (Fl × Loc)} {R : PyData} {m n : Nat}
    (ht : ∀ (W T I : List PyData) (o : Option PyData) (P : Int), T.length < m → W.length ≤ 20 → ∃ r P', Good r ∧ bd (.str (mk [116])) (roS R W T I (olv o) .unb) (some P) = .ok (.next, roS R (W ++ [.str (mk r)]) (T ++ [.str (mk r)]) I (.val (.str (mk [116]))) .unb) (some P'))
    (hi : ∀ (W T I : List PyData) (o : Option PyData) (P : Int), I.length < n → W.length ≤ 20 → ∃ x P', Ixf x ∧ bd (.str (mk [105])) (roS R W T I (olv o) .unb) (some P) = .ok (.next, roS R (W ++ [.str x.1]) T (I ++ [tw x]) (.val (.str (mk [105]))) .unb) (some P')) (so : List Bool) :
    ∀ (a : Made) (o : Option PyData) (P : Int), fits m n so a.rs.length a.xs.length = true → a.ws.length + so.length ≤ 20 → ∃ b o' P', Built so a b ∧ forP bd ((so.map srt).map fun u => PyData.str (mk [u])) (roM R a o) (some P) = .ok (.next, roM R b o') (some P') := by
  induction so with
  | nil => exact fun a o P _ _ => ⟨a, o, P, rfl, rfl⟩
  | cons c s ih =>
    intro a o P hf hl
    have hw : (strsD a.ws).length ≤ 20 := by unfold strsD; rw [List.length_map]; exact Nat.le_trans (Nat.le_add_right _ _) hl
    have hl' : a.ws.length + 1 + s.length ≤ 20 := by rw [List.length_cons] at hl; rw [Nat.add_assoc, Nat.add_comm 1]; exact hl
    refine Classical.byContradiction fun hno => ?_
    cases c with
    | true =>
      have z := Bool.and_eq_true_iff.mp hf
      obtain ⟨r, P1, g, e⟩ := ht (strsD a.ws) (textsD a.rs) (idxsD a.xs) o P (by unfold textsD; rw [List.length_map]; exact of_decide_eq_true z.1) hw
      obtain ⟨b, o', P', hb, e'⟩ := ih (a.text r) (some (.str (mk [116]))) P1 (by unfold Made.text; rw [List.length_append]; exact z.2) (by unfold Made.text; rw [List.length_append]; exact hl')
      refine hno ⟨b, o', P', ⟨r, g, hb⟩, f_cons (e.trans ?_) e'⟩
      unfold roM Made.text strsD textsD
      rw [List.map_append, List.map_append]; rfl
    | false =>
      have z := Bool.and_eq_true_iff.mp hf
      obtain ⟨x, P1, g, e⟩ := hi (strsD a.ws) (textsD a.rs) (idxsD a.xs) o P (by unfold idxsD; rw [List.length_map]; exact of_decide_eq_true z.1) hw
      obtain ⟨b, o', P', hb, e'⟩ := ih (a.idx x) (some (.str (mk [105]))) P1 (by unfold Made.idx; rw [List.length_append]; exact z.2) (by unfold Made.idx; rw [List.length_append]; exact hl')
      refine hno ⟨b, o', P', ⟨x, g, hb⟩, f_cons (e.trans ?_) e'⟩
      unfold roM Made.idx strsD idxsD
      rw [List.map_append, List.map_append]; rfl
theorem built_ok {so : List Bool} : ∀ {a b : Made}, Built so a b → (∀ w ∈ a.ws, PyData.strOk w = true) → (∀ w ∈ b.ws, PyData.strOk w = true) ∧ b.ws.length = a.ws.length + so.length := by
  induction so with
  | nil => intro a b h ha; cases h; exact ⟨ha, rfl⟩
  | cons c s ih =>
    intro a b h ha
    have app : ∀ x : Str, PyData.strOk x = true → ∀ w ∈ a.ws ++ [x], PyData.strOk w = true := fun x hx w hw => (List.mem_append.mp hw).elim (ha w) fun h => List.mem_singleton.mp h ▸ hx
    cases c with
    | true => exact h.elim fun r z => have q := ih z.2 (app _ (good_ok z.1)); ⟨q.1, q.2.trans (by unfold Made.text; rw [List.length_append]; exact Nat.add_right_comm _ 1 _)⟩
    | false => exact h.elim fun x z => have q := ih z.2 (app _ z.1.strOk); ⟨q.1, q.2.trans (by unfold Made.idx; rw [List.length_append]; exact Nat.add_right_comm _ 1 _)⟩
theorem flats_str (ws : List Str) : flats (strsD ws) = true := by
  induction ws with
  | nil => rfl
  | cons a r ih => exact ih
theorem last_at {L : List PyData} {d : PyData} (h : L.length ≤ 20) : subP (.list (L ++ [d])) (.int (-1)) = some d := sub_neg1 (by rw [List.length_append]; exact Nat.lt_of_le_of_lt (Nat.add_le_add_right h 1) (by decide)) List.getLast?_concat
noncomputable def RowH (k : Nat) (nm : Str) (b : Made) : Prop := ∃ d, (∀ p, callP D0 (k + 8) "_law_heard" [.val (.str nm), .val (.list (strsD b.ws))] p = .ok d p) ∧ (∀ p, callP D0 (k + 8) "_law_due" [.val (.str nm), .val (.list (textsD b.rs)), .val (.list (idxsD b.xs))] p = .ok d p) ∧ cmpP .Eq d d = some true
theorem rr {k : Nat} {nm : Str} {so : List Bool} {Ts : List (List Nat)} {Is : List (Int × Int × Int)} (hnm : PyData.strOk nm = true) (hT : ∀ T ∈ Ts, Good T) (hl : so.length ≤ 8) (hm : Ts.length ≤ 8) (hn : Is.length ≤ 8) (hf : fits Ts.length Is.length so 0 0 = true)
    (H : ∀ b, Built so ⟨[], [], ["string", nm]⟩ b → RowH k nm b) (P0 : Int) : RrP (callP D0 (k + 9) "_law_row_right" [.val (rowV nm so Ts Is), .pen] (some P0)) := by
  have big := sizeLine_big
  have rw0 : subP (rowV nm so Ts Is) (.int 0) = some (.str nm) := by kernel_rfl
  have rw1 : subP (rowV nm so Ts Is) (.int 1) = some (.str (mk (so.map srt))) := by kernel_rfl
  have rw2 : subP (rowV nm so Ts Is) (.int 2) = some (.list (textsD Ts)) := by kernel_rfl
  have rw3 : subP (rowV nm so Ts Is) (.int 3) = some (.list (Is.map trip)) := by kernel_rfl
  generalize rowV nm so Ts Is = R at rw0 rw1 rw2 rw3
  refine call_runP (rec := recL 51) (ρ := roL (.val R) .unb .unb .unb .unb .unb) (by kernel_rfl) (by kernel_rfl) ?_
  (conv => arg 1; arg 1; arg 2; whnf)
  unfold roL
  apply P_next (ρ1 := roM R ⟨[], [], ["string", nm]⟩ none) (p1 := some P0)
  · apply Eq.trans
    walk_at "m x"
    rfl
  apply P_for (R := fun ρ p => ∃ b o P, Built so ⟨[], [], ["string", nm]⟩ b ∧ ρ = roM R b o ∧ p = some P)
  · unfold roM roS roL
    walk_at "m items"
  · refine (rr_loop (m := Ts.length) (n := Is.length) ?_ ?_ so ⟨[], [], ["string", nm]⟩ none P0 hf (Nat.le_trans (Nat.add_le_add_left hl 2) (by decide))).elim fun b z => z.elim fun o z => z.elim fun P z => ⟨_, _, z.2, b, o, P, z.1, rfl, rfl⟩
    · intro W T I o P hT1 hW
      have hk : T.length < 1000000 := by lia
      obtain ⟨t, ht⟩ : ∃ t, Ts[T.length]? = some t := ⟨_, List.getElem?_eq_getElem hT1⟩
      obtain ⟨r, P', e, g⟩ := d_turned (k := k + 6) (hT t (List.mem_of_getElem? ht)) P
      have st : subP (.list (textsD Ts)) (.int (T.length : Int)) = some (.str (mk t)) := o_pick (Int.natCast_nonneg _) ⟨by unfold textsD; rw [List.length_map]; exact Int.ofNat_lt.mpr hT1, by unfold textsD; rw [List.length_map]; lia⟩ (by unfold textsD; rw [Int.toNat_natCast, List.getElem?_map, ht]; rfl)
      have s1 : T.length ≤ sizeLine := by lia
      have s2 : T.length ≤ 1000 := by lia
      have s3 : W.length ≤ 1000 := by lia
      have l1 := last_at (L := T) (d := .str (mk r)) (by lia)
      refine ⟨r, P', g, ?_⟩
      unfold roS roL
      apply Eq.trans
      walk_at "m turn"
      rfl
    · intro W T I o P hT1 hW
      obtain ⟨x, hx⟩ : ∃ x, Is[I.length]? = some x := ⟨_, List.getElem?_eq_getElem hT1⟩
      obtain ⟨P', w, e, v, h, ei, f⟩ := d_law_index (k := k + 6) x.1 x.2.1 x.2.2 P
      have st : subP (.list (Is.map trip)) (.int (I.length : Int)) = some (.tuple [.int x.1, .int x.2.1, .int x.2.2]) := o_pick (Int.natCast_nonneg _) ⟨by rw [List.length_map]; exact Int.ofNat_lt.mpr hT1, by rw [List.length_map]; lia⟩ (by rw [Int.toNat_natCast, List.getElem?_map, hx]; rfl)
      have s1 : I.length ≤ sizeLine := by lia
      have s2 : I.length ≤ 1000 := by lia
      have s3 : W.length ≤ 1000 := by lia
      have l1 := last_at (L := I) (d := idxT w e v h) (by lia)
      have sw0 : subP (idxT w e v h) (.int 0) = some (.str w) := by kernel_rfl
      refine ⟨(w, e, v, h), P', f, ?_⟩
      unfold roS roL
      apply Eq.trans
      walk_at "m turn"
      rfl
  · rintro ρ' p' ⟨b, o, P, hb, rfl, rfl⟩
    obtain ⟨d, hh, hd, hE⟩ := H b hb
    have hok := built_ok hb (by
      intro w hw
      rcases List.mem_cons.mp hw with rfl | hw
      · decide +kernel
      · exact List.mem_singleton.mp hw ▸ hnm)
    have hh' := hh (some P)
    have hd' := hd (some P)
    have hW : cmpP .Eq (.list (strsD b.ws)) (.list (strsD b.ws)) = some true := eq_strs hok.1
    have s1 : (strsD b.ws).length ≤ sizeLine := by
      have := hok.2
      unfold strsD; rw [List.length_map, this]; show 2 + so.length ≤ _; lia
    unfold roM roS roL
    apply P_next
    · with_reducible apply x_list
      · kernel_rfl
      · walk_at "m lk"
      · rfl
      · walk_at "m ev"
      · rfl
      · exact flats_str _
      · walk_at "m loc"
      · exact s1
      · walk_at "m put"
    apply P_ret
    · walk_at "m x"
    exact ⟨_, rfl⟩
end

section
theorem ok_append {a b : Str} (h1 : PyData.strOk a = true) (h2 : PyData.strOk b = true) : PyData.strOk (a ++ b) = true := by
  unfold PyData.strOk at *
  show (a.cps ++ b.cps).all _ = true
  rw [Array.all_append, h1, h2]; rfl
theorem ofS_ok (s : String) : PyData.strOk (Str.ofString s) = true := by
  rw [Str.ofString_eq_toList]
  unfold PyData.strOk
  rw [Array.all_eq_true']
  intro u hu
  have hu' : u ∈ s.toList.map Char.toNat := by simpa using hu
  obtain ⟨c, _, rfl⟩ := List.mem_map.mp hu'
  have := c.valid
  have h2 : c.toNat < 0x110000 := by
    rcases this with h | h
    · have : c.toNat < 0xd800 := h; lia
    · exact h.2
  exact decide_eq_true h2
theorem ok_al {l : List Nat} (h : ∀ u ∈ l, u ∈ alpha) : PyData.strOk (mk l) = true := by
  unfold PyData.strOk mk
  rw [Array.all_eq_true']
  intro u hu
  have hm := h u (by simpa using hu)
  have : ∀ u ∈ alpha, decide (u < 0x110000) = true := by decide
  exact this u hm
theorem ok_imsg {w : Str} (h : PyData.strOk w = true) : PyData.strOk (indexMsg w) = true := ok_append (ok_append (ofS_ok _) h) (ofS_ok _)
theorem ok_wmsg {w : Str} (h : PyData.strOk w = true) : PyData.strOk (wholeMsg w) = true := ok_append (ok_append (ofS_ok _) h) (ofS_ok _)
theorem ok_resF {o : Option Int} : PyData.strOk (resF o) = true := by cases o <;> exact ofS_ok _
theorem idx_mem {t : List Nat} {v : Int} {u : Nat} (h : u ∈ idxL t v) : u ∈ t := by
  obtain ⟨k, hk, rfl⟩ := List.mem_map.mp h
  exact getD_mem (List.mem_range.mp (List.mem_filter.mp hk).1)
theorem rng_mem {t : List Nat} {a b : Int} {u : Nat} (h : u ∈ rngL t a b) : u ∈ t := by
  obtain ⟨k, hk, rfl⟩ := List.mem_map.mp h
  exact getD_mem (List.mem_range.mp (List.mem_filter.mp hk).1)
theorem td_mem {nm s : Str} {t : List Nat} {u : Nat} (h : u ∈ tdF nm s t) : u ∈ t := by
  unfold tdF at h
  split at h
  · exact List.mem_of_mem_take (List.mem_of_mem_drop h)
  · cases h
theorem rp_mem {t b : List Nat} {x y : Int} {u : Nat} (h : u ∈ rpL t x y b) : u ∈ t ∨ u ∈ b := by
  unfold rpL at h
  split at h
  · rcases List.mem_append.mp h with h | h
    · rcases List.mem_append.mp h with h | h
      · exact .inl (List.mem_of_mem_take h)
      · exact .inr h
    · exact .inl (List.mem_of_mem_drop h)
  · exact .inl h
theorem code_ok {a b c : String} : ∀ w ∈ [Str.ofString a, Str.ofString b, Str.ofString c], PyData.strOk w = true := by
  intro w hw
  simp only [List.mem_cons, List.not_mem_nil, or_false] at hw
  rcases hw with rfl | rfl | rfl <;> exact ofS_ok _
theorem eq_ierr {w : Str} (h : PyData.strOk w = true) : cmpP .Eq (rdR (indexMsg w) codeI) (rdR (indexMsg w) codeI) = some true := eq_rd (ws := ["TCL", "VALUE", "INDEX"]) (ok_imsg h) code_ok
theorem eq_nerr {w : Str} (h : PyData.strOk w = true) : cmpP .Eq (rdR (wholeMsg w) codeN) (rdR (wholeMsg w) codeN) = some true := eq_rd (ws := ["TCL", "VALUE", "NUMBER"]) (ok_wmsg h) code_ok
theorem eq_werr : cmpP .Eq (rdR whyW (codeW whyW)) (rdR whyW (codeW whyW)) = some true := eq_rd (ws := ["ARITH", "IOVERFLOW", whyW]) (ofS_ok _) code_ok
theorem pl_eq {t : List Nat} {e : Bool} {x : Int} : cond e ((t.length : Int) - 1 + x) x = plV t false e x := by
  unfold plV endV; cases e <;> simp; lia
theorem pl_eqI {t : List Nat} {e : Bool} {x : Int} : cond e ((t.length : Int) + x) x = plV t true e x := by
  unfold plV endV; cases e <;> simp; lia
section
variable {k : Nat}
theorem H_index : ∀ (r0 : List Nat) (w0 : Str) (e0 : Bool) (v0 : Option Int) (h0 : Bool), Good r0 → IxF w0 e0 v0 h0 → ∃ d, (∀ p, callP D0 (k + 8) "_law_heard" [.val (.str "index"), .val (.list [.str "string", .str "index", .str (mk r0), .str w0])] p = .ok d p) ∧ (∀ p, callP D0 (k + 8) "_law_due" [.val (.str "index"), .val (.list [.str (mk r0)]), .val (.list [idxT w0 e0 v0 h0])] p = .ok d p) ∧ cmpP .Eq d d = some true := by
  intro r0 w0 e0 v0 h0 g0 f0
  have l0 : r0.length < 900 := by have := g0.1; lia
  have N : NmF "index" [.str (mk r0)] r0 false false := ⟨by decide +kernel, by kernel_rfl, by decide +kernel, by kernel_rfl, l0⟩
  cases v0 with
  | none => exact ⟨_, fun p => d_heard_err (d_call_index_err (d_string_index_err l0 (f0.err rfl))), fun p => d_due1n N f0.len, eq_ierr f0.strOk⟩
  | some x =>
    have hx := f0.ok x rfl
    refine ⟨.tuple [.str "gave", .str (mk (idxL r0 (plV r0 false e0 x)))], fun p => ?_, fun p => ?_, eq_gave (ok_al fun u hu => g0.2 u (idx_mem hu))⟩
    · have := d_heard (p := p) (d_call_index (d_string_index (k := k + 1) (w0 := .str "string") (w1 := .str "index") l0 hx))
      rw [pl_eq, idx_eq] at this
      exact this
    · exact d_due1 N (d_made_index (u := 0) l0)
theorem H_range : ∀ (r0 : List Nat) (w0 : Str) (e0 : Bool) (v0 : Option Int) (h0 : Bool) (w1 : Str) (e1 : Bool) (v1 : Option Int) (h1 : Bool), Good r0 → IxF w0 e0 v0 h0 → IxF w1 e1 v1 h1 → ∃ d, (∀ p, callP D0 (k + 8) "_law_heard" [.val (.str "range"), .val (.list [.str "string", .str "range", .str (mk r0), .str w0, .str w1])] p = .ok d p) ∧ (∀ p, callP D0 (k + 8) "_law_due" [.val (.str "range"), .val (.list [.str (mk r0)]), .val (.list [idxT w0 e0 v0 h0, idxT w1 e1 v1 h1])] p = .ok d p) ∧ cmpP .Eq d d = some true := by
  intro r0 w0 e0 v0 h0 w1 e1 v1 h1 g0 f0 f1
  have l0 : r0.length < 900 := by have := g0.1; lia
  have N : NmF "range" [.str (mk r0)] r0 false false := ⟨by decide +kernel, by kernel_rfl, by decide +kernel, by kernel_rfl, l0⟩
  cases v0 with
  | none => exact ⟨_, fun p => d_heard_err (d_call_range_err (d_string_range_err l0 (f0.err rfl))), fun p => d_due2e N f0.len, eq_ierr f0.strOk⟩
  | some x =>
    have hx := f0.ok x rfl
    cases v1 with
    | none => exact ⟨_, fun p => d_heard_err (d_call_range_err (d_string_range_err2 l0 hx (f1.err rfl))), fun p => d_due2n N f1.len, eq_ierr f1.strOk⟩
    | some y =>
      have hy := f1.ok y rfl
      refine ⟨.tuple [.str "gave", .str (mk (rngL r0 (plV r0 false e0 x) (plV r0 false e1 y)))], fun p => ?_, fun p => ?_, eq_gave (ok_al fun u hu => g0.2 u (rng_mem hu))⟩
      · have := d_heard (p := p) (d_call_range (d_string_range (k := k + 1) (w0 := .str "string") (w1 := .str "range") l0 hx hy))
        rw [pl_eq, pl_eq, rng_eq] at this
        exact this
      · exact d_due2 N (d_made_range l0)
theorem H_first0 : ∀ (r0 : List Nat) (r1 : List Nat) , Good r0 → Good r1 → ∃ d, (∀ p, callP D0 (k + 8) "_law_heard" [.val (.str "first"), .val (.list [.str "string", .str "first", .str (mk r0), .str (mk r1)])] p = .ok d p) ∧ (∀ p, callP D0 (k + 8) "_law_due" [.val (.str "first"), .val (.list [.str (mk r0), .str (mk r1)]), .val (.list [])] p = .ok d p) ∧ cmpP .Eq d d = some true := by
  intro r0 r1 g0 g1
  have l0 : r0.length < 900 := by have := g0.1; lia
  have l1 : r1.length < 900 := by have := g1.1; lia
  have N : NmF "first" [.str (mk r0), .str (mk r1)] r1 true false := ⟨by decide +kernel, by kernel_rfl, by decide +kernel, by kernel_rfl, l1⟩
  have hf : callP D0 (k + 6) "_law_found" [.val (.str "first"), .val (.str (mk r0)), .val (.str (mk r1)), .val (.list [])] = fun p => .ok (.str (resF (seekF "first" r0 r1 []).head?)) p := by
    funext p
    have := d_found (k := k + 5) (p := p) (nm := "first") (pl := []) l1 l0 (.inl rfl) (.inl rfl)
    rw [show decide (Str.ofString "first" = Str.ofString "first") = true from by decide +kernel] at this
    exact this
  refine ⟨.tuple [.str "gave", .str (resF (seekF "first" r0 r1 []).head?)], fun p => ?_, fun p => ?_, eq_gave ok_resF⟩
  · have := d_heard (p := p) (d_call_first (d_string_first0 (k := k + 1) (w0 := .str "string") (w1 := .str "first") l0 l1))
    rw [seek_first0] at this
    exact this
  · exact d_due0 N (d_made_first (by rw [hf]))
theorem H_first1 : ∀ (r0 : List Nat) (r1 : List Nat) (w0 : Str) (e0 : Bool) (v0 : Option Int) (h0 : Bool), Good r0 → Good r1 → IxF w0 e0 v0 h0 → ∃ d, (∀ p, callP D0 (k + 8) "_law_heard" [.val (.str "first"), .val (.list [.str "string", .str "first", .str (mk r0), .str (mk r1), .str w0])] p = .ok d p) ∧ (∀ p, callP D0 (k + 8) "_law_due" [.val (.str "first"), .val (.list [.str (mk r0), .str (mk r1)]), .val (.list [idxT w0 e0 v0 h0])] p = .ok d p) ∧ cmpP .Eq d d = some true := by
  intro r0 r1 w0 e0 v0 h0 g0 g1 f0
  have l0 : r0.length < 900 := by have := g0.1; lia
  have l1 : r1.length < 900 := by have := g1.1; lia
  have N : NmF "first" [.str (mk r0), .str (mk r1)] r1 true false := ⟨by decide +kernel, by kernel_rfl, by decide +kernel, by kernel_rfl, l1⟩
  cases v0 with
  | none => exact ⟨_, fun p => d_heard_err (d_call_first_err (d_string_first_err l1 (f0.err rfl))), fun p => d_due1n N f0.len, eq_ierr f0.strOk⟩
  | some x =>
    have hx := f0.ok x rfl
    have hf : callP D0 (k + 6) "_law_found" [.val (.str "first"), .val (.str (mk r0)), .val (.str (mk r1)), .val (.list [.int (plV r1 false e0 x)])] = fun p => .ok (.str (resF (seekF "first" r0 r1 [plV r1 false e0 x]).head?)) p := by
      funext p
      have := d_found (k := k + 5) (p := p) (nm := "first") (pl := [plV r1 false e0 x]) l1 l0 (.inl rfl) (.inr ⟨_, rfl⟩)
      rw [show decide (Str.ofString "first" = Str.ofString "first") = true from by decide +kernel] at this
      exact this
    refine ⟨.tuple [.str "gave", .str (resF (seekF "first" r0 r1 [plV r1 false e0 x]).head?)], fun p => ?_, fun p => ?_, eq_gave ok_resF⟩
    · have := d_heard (p := p) (d_call_first (d_string_first1 (k := k + 1) (w0 := .str "string") (w1 := .str "first") l0 l1 hx))
      rw [pl_eq, seek_first1] at this
      exact this
    · exact d_due1 N (d_made_first (by rw [hf]))
theorem H_last0 : ∀ (r0 : List Nat) (r1 : List Nat) , Good r0 → Good r1 → ∃ d, (∀ p, callP D0 (k + 8) "_law_heard" [.val (.str "last"), .val (.list [.str "string", .str "last", .str (mk r0), .str (mk r1)])] p = .ok d p) ∧ (∀ p, callP D0 (k + 8) "_law_due" [.val (.str "last"), .val (.list [.str (mk r0), .str (mk r1)]), .val (.list [])] p = .ok d p) ∧ cmpP .Eq d d = some true := by
  intro r0 r1 g0 g1
  have l0 : r0.length < 900 := by have := g0.1; lia
  have l1 : r1.length < 900 := by have := g1.1; lia
  have N : NmF "last" [.str (mk r0), .str (mk r1)] r1 true false := ⟨by decide +kernel, by kernel_rfl, by decide +kernel, by kernel_rfl, l1⟩
  have hf : callP D0 (k + 6) "_law_found" [.val (.str "last"), .val (.str (mk r0)), .val (.str (mk r1)), .val (.list [])] = fun p => .ok (.str (resF (seekF "last" r0 r1 []).getLast?)) p := by
    funext p
    have := d_found (k := k + 5) (p := p) (nm := "last") (pl := []) l1 l0 (.inr rfl) (.inl rfl)
    rw [show decide (Str.ofString "last" = Str.ofString "first") = false from by decide +kernel] at this
    exact this
  refine ⟨.tuple [.str "gave", .str (resF (seekF "last" r0 r1 []).getLast?)], fun p => ?_, fun p => ?_, eq_gave ok_resF⟩
  · have := d_heard (p := p) (d_call_last (d_string_last0 (k := k + 1) (w0 := .str "string") (w1 := .str "last") l0 l1))
    rw [seek_last0] at this
    exact this
  · exact d_due0 N (d_made_last (by rw [hf]))
theorem H_last1 : ∀ (r0 : List Nat) (r1 : List Nat) (w0 : Str) (e0 : Bool) (v0 : Option Int) (h0 : Bool), Good r0 → Good r1 → IxF w0 e0 v0 h0 → ∃ d, (∀ p, callP D0 (k + 8) "_law_heard" [.val (.str "last"), .val (.list [.str "string", .str "last", .str (mk r0), .str (mk r1), .str w0])] p = .ok d p) ∧ (∀ p, callP D0 (k + 8) "_law_due" [.val (.str "last"), .val (.list [.str (mk r0), .str (mk r1)]), .val (.list [idxT w0 e0 v0 h0])] p = .ok d p) ∧ cmpP .Eq d d = some true := by
  intro r0 r1 w0 e0 v0 h0 g0 g1 f0
  have l0 : r0.length < 900 := by have := g0.1; lia
  have l1 : r1.length < 900 := by have := g1.1; lia
  have N : NmF "last" [.str (mk r0), .str (mk r1)] r1 true false := ⟨by decide +kernel, by kernel_rfl, by decide +kernel, by kernel_rfl, l1⟩
  cases v0 with
  | none => exact ⟨_, fun p => d_heard_err (d_call_last_err (d_string_last_err l1 (f0.err rfl))), fun p => d_due1n N f0.len, eq_ierr f0.strOk⟩
  | some x =>
    have hx := f0.ok x rfl
    have hf : callP D0 (k + 6) "_law_found" [.val (.str "last"), .val (.str (mk r0)), .val (.str (mk r1)), .val (.list [.int (plV r1 false e0 x)])] = fun p => .ok (.str (resF (seekF "last" r0 r1 [plV r1 false e0 x]).getLast?)) p := by
      funext p
      have := d_found (k := k + 5) (p := p) (nm := "last") (pl := [plV r1 false e0 x]) l1 l0 (.inr rfl) (.inr ⟨_, rfl⟩)
      rw [show decide (Str.ofString "last" = Str.ofString "first") = false from by decide +kernel] at this
      exact this
    refine ⟨.tuple [.str "gave", .str (resF (seekF "last" r0 r1 [plV r1 false e0 x]).getLast?)], fun p => ?_, fun p => ?_, eq_gave ok_resF⟩
    · have := d_heard (p := p) (d_call_last (d_string_last1 (k := k + 1) (w0 := .str "string") (w1 := .str "last") l0 l1 hx))
      rw [pl_eq, seek_last1] at this
      exact this
    · exact d_due1 N (d_made_last (by rw [hf]))
theorem H_insert : ∀ (r0 : List Nat) (r1 : List Nat) (w0 : Str) (e0 : Bool) (v0 : Option Int) (h0 : Bool), Good r0 → Good r1 → IxF w0 e0 v0 h0 → ∃ d, (∀ p, callP D0 (k + 8) "_law_heard" [.val (.str "insert"), .val (.list [.str "string", .str "insert", .str (mk r0), .str w0, .str (mk r1)])] p = .ok d p) ∧ (∀ p, callP D0 (k + 8) "_law_due" [.val (.str "insert"), .val (.list [.str (mk r0), .str (mk r1)]), .val (.list [idxT w0 e0 v0 h0])] p = .ok d p) ∧ cmpP .Eq d d = some true := by
  intro r0 r1 w0 e0 v0 h0 g0 g1 f0
  have l0 : r0.length < 900 := by have := g0.1; lia
  have l1 : r1.length < 900 := by have := g1.1; lia
  have N : NmF "insert" [.str (mk r0), .str (mk r1)] r0 false true := ⟨by decide +kernel, by kernel_rfl, by decide +kernel, by kernel_rfl, l0⟩
  cases v0 with
  | none => exact ⟨_, fun p => d_heard_err (d_call_insert_err (d_string_insert_err l0 (f0.err rfl))), fun p => d_due1n N f0.len, eq_ierr f0.strOk⟩
  | some x =>
    have hx := f0.ok x rfl
    refine ⟨.tuple [.str "gave", .str (mk (r0.take (insA r0 (plV r0 true e0 x)) ++ r1 ++ r0.drop (insA r0 (plV r0 true e0 x))))], fun p => ?_, fun p => ?_, eq_gave (ok_al fun u hu => by
      rcases List.mem_append.mp hu with hu | hu
      · rcases List.mem_append.mp hu with hu | hu
        · exact g0.2 u (List.mem_of_mem_take hu)
        · exact g1.2 u hu
      · exact g0.2 u (List.mem_of_mem_drop hu))⟩
    · have := d_heard (p := p) (d_call_insert (d_string_insert (k := k + 1) (w0 := .str "string") (w1 := .str "insert") l0 l1 hx))
      rw [pl_eqI, ins_eq] at this
      exact this
    · exact d_due1 N (d_made_insert l0 l1)
theorem H_replace6 : ∀ (r0 : List Nat) (r1 : List Nat) (w0 : Str) (e0 : Bool) (v0 : Option Int) (h0 : Bool) (w1 : Str) (e1 : Bool) (v1 : Option Int) (h1 : Bool), Good r0 → Good r1 → IxF w0 e0 v0 h0 → IxF w1 e1 v1 h1 → ∃ d, (∀ p, callP D0 (k + 8) "_law_heard" [.val (.str "replace"), .val (.list [.str "string", .str "replace", .str (mk r0), .str w0, .str w1, .str (mk r1)])] p = .ok d p) ∧ (∀ p, callP D0 (k + 8) "_law_due" [.val (.str "replace"), .val (.list [.str (mk r0), .str (mk r1)]), .val (.list [idxT w0 e0 v0 h0, idxT w1 e1 v1 h1])] p = .ok d p) ∧ cmpP .Eq d d = some true := by
  intro r0 r1 w0 e0 v0 h0 w1 e1 v1 h1 g0 g1 f0 f1
  have l0 : r0.length < 900 := by have := g0.1; lia
  have l1 : r1.length < 900 := by have := g1.1; lia
  have N : NmF "replace" [.str (mk r0), .str (mk r1)] r0 false false := ⟨by decide +kernel, by kernel_rfl, by decide +kernel, by kernel_rfl, l0⟩
  cases v0 with
  | none => exact ⟨_, fun p => d_heard_err (d_call_replace_err (d_string_replace_err (.inr ⟨_, rfl⟩) l0 (f0.err rfl))), fun p => d_due2e N f0.len, eq_ierr f0.strOk⟩
  | some x =>
    have hx := f0.ok x rfl
    cases v1 with
    | none => exact ⟨_, fun p => d_heard_err (d_call_replace_err (d_string_replace_err2 (.inr ⟨_, rfl⟩) l0 hx (f1.err rfl))), fun p => d_due2n N f1.len, eq_ierr f1.strOk⟩
    | some y =>
      have hy := f1.ok y rfl
      refine ⟨.tuple [.str "gave", .str (mk (rpL r0 (plV r0 false e0 x) (plV r0 false e1 y) r1))], fun p => ?_, fun p => ?_, eq_gave (ok_al fun u hu => (rp_mem hu).elim (g0.2 u) (g1.2 u))⟩
      · have := d_heard (p := p) (d_call_replace (d_string_replace6 (k := k + 1) (w0 := .str "string") (w1 := .str "replace") l0 l1 hx hy))
        rw [pl_eq, pl_eq, rp_eq] at this
        exact this
      · exact d_due2 N (d_made_replace6 l0 l1)
theorem H_replace5 : ∀ (r0 : List Nat) (w0 : Str) (e0 : Bool) (v0 : Option Int) (h0 : Bool) (w1 : Str) (e1 : Bool) (v1 : Option Int) (h1 : Bool), Good r0 → IxF w0 e0 v0 h0 → IxF w1 e1 v1 h1 → ∃ d, (∀ p, callP D0 (k + 8) "_law_heard" [.val (.str "replace"), .val (.list [.str "string", .str "replace", .str (mk r0), .str w0, .str w1])] p = .ok d p) ∧ (∀ p, callP D0 (k + 8) "_law_due" [.val (.str "replace"), .val (.list [.str (mk r0)]), .val (.list [idxT w0 e0 v0 h0, idxT w1 e1 v1 h1])] p = .ok d p) ∧ cmpP .Eq d d = some true := by
  intro r0 w0 e0 v0 h0 w1 e1 v1 h1 g0 f0 f1
  have l0 : r0.length < 900 := by have := g0.1; lia
  have N : NmF "replace" [.str (mk r0)] r0 false false := ⟨by decide +kernel, by kernel_rfl, by decide +kernel, by kernel_rfl, l0⟩
  cases v0 with
  | none => exact ⟨_, fun p => d_heard_err (d_call_replace_err (d_string_replace_err (.inl rfl) l0 (f0.err rfl))), fun p => d_due2e N f0.len, eq_ierr f0.strOk⟩
  | some x =>
    have hx := f0.ok x rfl
    cases v1 with
    | none => exact ⟨_, fun p => d_heard_err (d_call_replace_err (d_string_replace_err2 (.inl rfl) l0 hx (f1.err rfl))), fun p => d_due2n N f1.len, eq_ierr f1.strOk⟩
    | some y =>
      have hy := f1.ok y rfl
      refine ⟨.tuple [.str "gave", .str (mk (rpL r0 (plV r0 false e0 x) (plV r0 false e1 y) []))], fun p => ?_, fun p => ?_, eq_gave (ok_al fun u hu => (rp_mem hu).elim (g0.2 u) (fun q => nomatch q))⟩
      · have := d_heard (p := p) (d_call_replace (d_string_replace5 (k := k + 1) (w0 := .str "string") (w1 := .str "replace") l0 hx hy))
        rw [pl_eq, pl_eq, rp_eq] at this
        exact this
      · exact d_due2 N (d_made_replace5 l0 (b := []) (by decide))
theorem H_repeat : ∀ (r0 : List Nat) (w0 : Str) (e0 : Bool) (v0 : Option Int) (h0 : Bool), Good r0 → IxF w0 e0 v0 h0 → ∃ d, (∀ p, callP D0 (k + 8) "_law_heard" [.val (.str "repeat"), .val (.list [.str "string", .str "repeat", .str (mk r0), .str w0])] p = .ok d p) ∧ (∀ p, callP D0 (k + 8) "_law_due" [.val (.str "repeat"), .val (.list [.str (mk r0)]), .val (.list [idxT w0 e0 v0 h0])] p = .ok d p) ∧ cmpP .Eq d d = some true := by
  intro r0 w0 e0 v0 h0 g0 f0
  have l0 : r0.length < 900 := by have := g0.1; lia
  cases h0 with
  | false =>
    have he := f0.werr rfl
    refine ⟨rdR (wholeMsg w0) codeN, fun p => ?_, fun p => ?_, eq_nerr f0.strOk⟩
    · exact d_heard_err (d_call_repeat_err (d_string_repeat_err he))
    · exact d_due_rep (d_repeated_no f0.len)
  | true =>
    obtain ⟨n, rfl, he, h1, h2⟩ := f0.wok rfl
    cases hf : farI n with
    | true =>
      refine ⟨rdR whyW (codeW whyW), fun p => ?_, fun p => ?_, eq_werr⟩
      · exact d_heard_err (d_call_repeat_err (d_string_repeat_err (h1 hf)))
      · have := d_due_rep (k := k + 5) (p := p) (d_repeated (k := k + 6) (w := w0) (e := e0) (n := n) (t := r0) l0 fun q => (h2 q).2)
        simp only [rpR, cond_true, cond_false, hf] at this
        exact this
    | false =>
      refine ⟨.tuple [.str "gave", .str (mk (List.replicate n.toNat r0).flatten)], fun p => ?_, fun p => ?_, eq_gave (ok_al fun u hu => ?_)⟩
      · have := d_heard (p := p) (d_call_repeat (d_string_repeat (k := k) (w0 := .str "string") (w1 := .str "repeat") l0 (h2 hf).2 (h2 hf).1))
        rw [rep_eq] at this
        exact this
      · have := d_due_rep (k := k + 5) (p := p) (d_repeated (k := k + 6) (w := w0) (e := e0) (n := n) (t := r0) l0 fun q => (h2 q).2)
        simp only [rpR, cond_true, cond_false, hf] at this
        exact this
      · obtain ⟨l, hl, hu'⟩ := List.mem_flatten.mp hu
        rw [(List.mem_replicate.mp hl).2] at hu'
        exact g0.2 u hu'
theorem H_reverse : ∀ (r0 : List Nat) , Good r0 → ∃ d, (∀ p, callP D0 (k + 8) "_law_heard" [.val (.str "reverse"), .val (.list [.str "string", .str "reverse", .str (mk r0)])] p = .ok d p) ∧ (∀ p, callP D0 (k + 8) "_law_due" [.val (.str "reverse"), .val (.list [.str (mk r0)]), .val (.list [])] p = .ok d p) ∧ cmpP .Eq d d = some true := by
  intro r0 g0
  have l0 : r0.length < 900 := by have := g0.1; lia
  have N : NmF "reverse" [.str (mk r0)] r0 false false := ⟨by decide +kernel, by kernel_rfl, by decide +kernel, by kernel_rfl, l0⟩
  refine ⟨.tuple [.str "gave", .str (mk r0.reverse)], fun p => ?_, fun p => ?_, eq_gave (ok_al fun u hu => g0.2 u (List.mem_reverse.mp hu))⟩
  · have := d_heard (p := p) (d_call_reverse (d_string_reverse (k := k + 1) (w0 := .str "string") (w1 := .str "reverse") l0))
    exact this
  · exact d_due0 N (d_made_reverse l0)
theorem H_length : ∀ (r0 : List Nat) , Good r0 → ∃ d, (∀ p, callP D0 (k + 8) "_law_heard" [.val (.str "length"), .val (.list [.str "string", .str "length", .str (mk r0)])] p = .ok d p) ∧ (∀ p, callP D0 (k + 8) "_law_due" [.val (.str "length"), .val (.list [.str (mk r0)]), .val (.list [])] p = .ok d p) ∧ cmpP .Eq d d = some true := by
  intro r0 g0
  have l0 : r0.length < 900 := by have := g0.1; lia
  have N : NmF "length" [.str (mk r0)] r0 false false := ⟨by decide +kernel, by kernel_rfl, by decide +kernel, by kernel_rfl, l0⟩
  refine ⟨.tuple [.str "gave", .str (strI r0.length)], fun p => ?_, fun p => ?_, eq_gave (ofS_ok _)⟩
  · have := d_heard (p := p) (d_call_length (d_string_length (k := k + 1) (w0 := .str "string") (w1 := .str "length") l0))
    exact this
  · exact d_due0 N (d_made_length l0)
theorem H_trim0 : ∀ (r0 : List Nat) , Good r0 → ∃ d, (∀ p, callP D0 (k + 8) "_law_heard" [.val (.str "trim"), .val (.list [.str "string", .str "trim", .str (mk r0)])] p = .ok d p) ∧ (∀ p, callP D0 (k + 8) "_law_due" [.val (.str "trim"), .val (.list [.str (mk r0)]), .val (.list [])] p = .ok d p) ∧ cmpP .Eq d d = some true := by
  intro r0 g0
  have l0 : r0.length < 900 := by have := g0.1; lia
  have N : NmF "trim" [.str (mk r0)] r0 false false := ⟨by decide +kernel, by kernel_rfl, by decide +kernel, by kernel_rfl, l0⟩
  refine ⟨.tuple [.str "gave", .str (mk (tdF "trim" " \n" r0))], fun p => ?_, fun p => ?_, eq_gave (ok_al fun u hu => g0.2 u (td_mem hu))⟩
  · have := d_heard (p := p) (d_call_trim (d_string_trim (k := k + 1) (w0 := .str "string") (w1 := .str "trim") (rest := []) (s := defTrim) (t := r0) (fun _ _ _ => d_trim_signs0) (by simp only [List.length_cons, List.length_nil]; lia) l0))
    rw [ttF_def g0.2, trim_eq] at this
    exact this
  · exact d_due0 N (d_made_trim0 l0)
theorem H_trim1 : ∀ (r0 : List Nat) (r1 : List Nat) , Good r0 → Good r1 → ∃ d, (∀ p, callP D0 (k + 8) "_law_heard" [.val (.str "trim"), .val (.list [.str "string", .str "trim", .str (mk r0), .str (mk r1)])] p = .ok d p) ∧ (∀ p, callP D0 (k + 8) "_law_due" [.val (.str "trim"), .val (.list [.str (mk r0), .str (mk r1)]), .val (.list [])] p = .ok d p) ∧ cmpP .Eq d d = some true := by
  intro r0 r1 g0 g1
  have l0 : r0.length < 900 := by have := g0.1; lia
  have l1 : r1.length < 900 := by have := g1.1; lia
  have N : NmF "trim" [.str (mk r0), .str (mk r1)] r0 false false := ⟨by decide +kernel, by kernel_rfl, by decide +kernel, by kernel_rfl, l0⟩
  refine ⟨.tuple [.str "gave", .str (mk (tdF "trim" (mk r1) r0))], fun p => ?_, fun p => ?_, eq_gave (ok_al fun u hu => g0.2 u (td_mem hu))⟩
  · have := d_heard (p := p) (d_call_trim (d_string_trim (k := k + 1) (w0 := .str "string") (w1 := .str "trim") (rest := [.str (mk r1)]) (s := mk r1) (t := r0) (fun _ _ _ => d_trim_signs1) (by simp only [List.length_cons, List.length_nil]; lia) l0))
    rw [trim_eq] at this
    exact this
  · exact d_due0 N (d_made_trim1 l0)
theorem H_trimleft1 : ∀ (r0 : List Nat) (r1 : List Nat) , Good r0 → Good r1 → ∃ d, (∀ p, callP D0 (k + 8) "_law_heard" [.val (.str "trimleft"), .val (.list [.str "string", .str "trimleft", .str (mk r0), .str (mk r1)])] p = .ok d p) ∧ (∀ p, callP D0 (k + 8) "_law_due" [.val (.str "trimleft"), .val (.list [.str (mk r0), .str (mk r1)]), .val (.list [])] p = .ok d p) ∧ cmpP .Eq d d = some true := by
  intro r0 r1 g0 g1
  have l0 : r0.length < 900 := by have := g0.1; lia
  have l1 : r1.length < 900 := by have := g1.1; lia
  have N : NmF "trimleft" [.str (mk r0), .str (mk r1)] r0 false false := ⟨by decide +kernel, by kernel_rfl, by decide +kernel, by kernel_rfl, l0⟩
  refine ⟨.tuple [.str "gave", .str (mk (tdF "trimleft" (mk r1) r0))], fun p => ?_, fun p => ?_, eq_gave (ok_al fun u hu => g0.2 u (td_mem hu))⟩
  · have := d_heard (p := p) (d_call_trimleft (d_string_trimleft (k := k + 1) (w0 := .str "string") (w1 := .str "trimleft") (rest := [.str (mk r1)]) (s := mk r1) (t := r0) (fun _ _ _ => d_trim_signs1) (by simp only [List.length_cons, List.length_nil]; lia) l0))
    rw [trim_left_eq] at this
    exact this
  · exact d_due0 N (d_made_trimleft1 l0)
theorem H_trimright0 : ∀ (r0 : List Nat) , Good r0 → ∃ d, (∀ p, callP D0 (k + 8) "_law_heard" [.val (.str "trimright"), .val (.list [.str "string", .str "trimright", .str (mk r0)])] p = .ok d p) ∧ (∀ p, callP D0 (k + 8) "_law_due" [.val (.str "trimright"), .val (.list [.str (mk r0)]), .val (.list [])] p = .ok d p) ∧ cmpP .Eq d d = some true := by
  intro r0 g0
  have l0 : r0.length < 900 := by have := g0.1; lia
  have N : NmF "trimright" [.str (mk r0)] r0 false false := ⟨by decide +kernel, by kernel_rfl, by decide +kernel, by kernel_rfl, l0⟩
  refine ⟨.tuple [.str "gave", .str (mk (tdF "trimright" " \n" r0))], fun p => ?_, fun p => ?_, eq_gave (ok_al fun u hu => g0.2 u (td_mem hu))⟩
  · have := d_heard (p := p) (d_call_trimright (d_string_trimright (k := k + 1) (w0 := .str "string") (w1 := .str "trimright") (rest := []) (s := defTrim) (t := r0) (fun _ _ _ => d_trim_signs0) (by simp only [List.length_cons, List.length_nil]; lia) l0))
    rw [trN_def g0.2, trim_right_eq] at this
    exact this
  · exact d_due0 N (d_made_trimright0 l0)
end
end

section
theorem fm_map {α β : Type} (f : α → β) (l : List α) (idx : List Nat) : idx.filterMap ((l.map f)[·]?) = (idx.filterMap (l[·]?)).map f := by
  induction idx with
  | nil => rfl
  | cons a r ih =>
    rw [List.filterMap_cons, List.filterMap_cons, List.getElem?_map, ih]
    cases l[a]? <;> rfl
noncomputable def cutI (l : List Int) (lo hi st : Option Int) : List Int := (sliceRange (sliceBounds lo hi st l.length).1 (sliceBounds lo hi st l.length).2.1 (sliceBounds lo hi st l.length).2.2).filterMap (l[·]?)
theorem slice_ints {l : List Int} {lo hi st : Option Int} (hs : st ≠ some 0) (hl : l.length ≤ 1000) : sliceP (.list (l.map PyData.int)) lo hi st = some (.list ((cutI l lo hi st).map PyData.int)) := by
  have big := sizeLine_big
  refine on (by rw [decide_eq_true hs, decide_eq_true (show (l.map PyData.int).length ≤ sizeLine by rw [List.length_map]; lia)]; rfl) ?_
  unfold lstSlice cutI
  rw [List.length_map, fm_map]
theorem cut_mem {l : List Int} {lo hi st : Option Int} {i : Int} (h : i ∈ cutI l lo hi st) : i ∈ l := by
  obtain ⟨k, _, hk⟩ := List.mem_filterMap.mp h
  exact List.mem_of_getElem? hk
theorem cut_len63 {l : List Int} {hi : Int} (h0 : 0 ≤ hi) (hl : l.length ≤ 100) : (cutI l none (some hi) none).length ≤ l.length := by
  have e : sliceBounds none (some hi) none l.length = ((0 : Int), max 0 (min (if hi < 0 then hi + (l.length : Int) else hi) (l.length : Int)), (1 : Int)) := by
    simp [sliceBounds]
  unfold cutI
  refine Nat.le_trans (List.length_filterMap_le _ _) ?_
  rw [e]
  unfold sliceRange
  rw [List.length_map, List.length_range]
  simp only [if_pos (show (1 : Int) > 0 by decide), if_neg (show ¬ hi < 0 by lia), Int.ediv_one]
  split <;> lia
theorem cut_lenK {l : List Int} {k s : Int} (h0 : 0 ≤ k) (hs : 0 < s) (hl : l.length ≤ 100) : (cutI l (some k) none (some s)).length ≤ 200 := by
  have e : sliceBounds (some k) none (some s) l.length = (max 0 (min (if k < 0 then k + (l.length : Int) else k) (l.length : Int)), (l.length : Int), s) := by
    simp [sliceBounds, hs]
  unfold cutI
  refine Nat.le_trans (List.length_filterMap_le _ _) ?_
  rw [e]
  unfold sliceRange
  rw [List.length_map, List.length_range]
  simp only [if_pos (show s > 0 from hs), if_neg (show ¬ k < 0 by omega)]
  split
  · have : ((l.length : Int) - max 0 (min k l.length) + s - 1) / s ≤ (l.length : Int) := by
      apply Int.ediv_le_of_le_mul hs
      have h3 : 0 < (l.length : Int) := by omega
      have h4 : ((l.length : Int) - 1) * (s - 1) ≥ 0 := Int.mul_nonneg (by omega) (by omega)
      have h5 : ((l.length : Int) - 1) * (s - 1) = (l.length : Int) * s - l.length - s + 1 := by
        rw [Int.sub_mul, Int.mul_sub, Int.mul_one, Int.one_mul]; omega
      omega
    omega
  · omega
theorem intsOf_ints (l : List Int) : intsOf (l.map PyData.int) = some l := by
  induction l with
  | nil => rfl
  | cons i r ih =>
    rw [List.map_cons]
    show (intsOf (r.map PyData.int)).bind _ = _
    rw [ih]; rfl
theorem o_sum {l : List Int} (h : l.length ≤ 1000) : builtinP ("sum" : Str) [.list (l.map PyData.int)] = some (.int l.sum) := by
  rw [show builtinP ("sum" : Str) [.list (l.map PyData.int)] = sumP (.list (l.map PyData.int)) by kernel_rfl]
  show (intsOf (l.map PyData.int)).bind _ = _
  rw [intsOf_ints]
  exact on (decide_eq_true h) rfl
theorem sum_bound {B : Nat} : ∀ l : List Int, (∀ i ∈ l, i.natAbs < 2 ^ B) → l.sum.natAbs ≤ l.length * 2 ^ B
  | [], _ => by simp
  | i :: r, h => by
    have h1 := sum_bound r fun x m => h x (.tail _ m)
    have h2 := h i (.head _)
    rw [List.sum_cons, List.length_cons, Nat.add_mul, Nat.one_mul]
    have := Int.natAbs_add_le i r.sum
    lia
theorem bits_bound {B : Nat} {i : Int} (h : i.natAbs ≤ 200 * 2 ^ B) : Builtin.Int.intBits i ≤ B + 9 := by
  unfold Builtin.Int.intBits
  split
  · lia
  · rename_i h0
    have h1 : i.natAbs ≠ 0 := by simpa using h0
    have h2 : i.natAbs < 2 ^ (B + 8) := by
      rw [Nat.pow_add]
      have : 0 < 2 ^ B := Nat.two_pow_pos B
      have e : (2 : Nat) ^ 8 = 256 := by decide
      rw [e, Nat.mul_comm]; lia
    have := (Nat.log2_lt h1).mpr h2
    lia
theorem o_mul_big {B : Nat} {i : Int} (h : i.natAbs ≤ 200 * 2 ^ B) (hB : B ≤ 1048576) : binP .Mult (.int i) (.int 1000000000000000000000000000057) = some (.int (i * 1000000000000000000000000000057)) := by
  have hb := bits_bound h
  have hc : Builtin.Int.intBits 1000000000000000000000000000057 = 100 := by decide +kernel
  have ht : Builtin.Int.intTooBig (((Builtin.Int.intBits i : Nat) : Int) + ((Builtin.Int.intBits 1000000000000000000000000000057 : Nat) : Int)) = false := by
    unfold Builtin.Int.intTooBig
    rw [hc]
    have : ((bitsLine : Nat) : Int) = 134217728 := by decide +kernel
    rw [this]
    exact decide_eq_false (by lia)
  exact on (by rw [ht, Bool.and_false]; rfl) rfl

/-! the rows -/
noncomputable def toldV : List PyData := match callP D0 9 "_law_told" [] none with
  | .ok (.list xs) _ => xs
  | _ => []
theorem told_ok : callP D0 9 "_law_told" [] none = .ok (.list toldV) none := by kernel_rfl
theorem told_len : toldV.length = 46 := by decide +kernel
noncomputable def goodB (l : List Nat) : Bool := decide (l.length ≤ 7) && l.all fun u => alpha.contains u
theorem good_of {l : List Nat} (h : goodB l = true) : Good l :=
  have z := Bool.and_eq_true_iff.mp h
  ⟨of_decide_eq_true z.1, fun u hu => List.contains_iff_mem.mp (List.all_eq_true.mp z.2 u hu)⟩
noncomputable abbrev RowD := Str × List Bool × List (List Nat) × List (Int × Int × Int)
noncomputable def rowsT : List RowD := [(Str.ofString "index", [true, false], [[97, 98, 99]], [(3, 0, 2)]),
  (Str.ofString "index", [true, false], [[97, 98, 99]], [(0, 3, 0)]),
  (Str.ofString "index", [true, false], [[97, 98, 99]], [(0, (-1), 0)]),
  (Str.ofString "index", [true, false], [[97, 98]], [(2, 0, 0)]),
  (Str.ofString "index", [true, false], [[97, 98, 99]], [(6, 2, 2)]),
  (Str.ofString "index", [true, false], [[97, 98, 99, 100]], [(6, (-3), 3)]),
  (Str.ofString "range", [true, false, false], [[97, 98, 99, 100]], [(0, 1, 0), (3, 0, 1)]),
  (Str.ofString "range", [true, false, false], [[97, 98, 99, 100]], [(0, (-2), 0), (2, 0, 3)]),
  (Str.ofString "range", [true, false, false], [[97, 98, 99, 100]], [(4, 1, 2), (5, 5, 3)]),
  (Str.ofString "range", [true, false, false], [[97, 98, 99]], [(7, 2, 0), (6, 2, 0)]),
  (Str.ofString "range", [true, false, false], [[97, 98, 99]], [(8, 0, 3), (8, 0, 2)]),
  (Str.ofString "range", [true, false, false], [[97, 98, 99, 100]], [(3, 0, 1), (1, 0, 0)]),
  (Str.ofString "first", [true, true], [[98], [97, 98, 97, 98]], []),
  (Str.ofString "first", [true, true, false], [[97, 98], [97, 98, 97, 98]], [(3, 0, 2)]),
  (Str.ofString "first", [true, true, false], [[99], [97, 98]], [(0, (-2), 0)]),
  (Str.ofString "last", [true, true], [[97, 98], [97, 98, 97, 98]], []),
  (Str.ofString "last", [true, true, false], [[97, 98], [97, 98, 97, 98]], [(3, 0, 1)]),
  (Str.ofString "last", [true, true, false], [[], [97, 98]], [(1, 0, 0)]),
  (Str.ofString "first", [true, true, false], [[97], [97, 97]], [(8, 0, 10)]),
  (Str.ofString "insert", [true, false, true], [[97, 98, 99], [100]], [(1, 0, 0)]),
  (Str.ofString "insert", [true, false, true], [[97, 98, 99], [100]], [(0, (-3), 0)]),
  (Str.ofString "insert", [true, false, true], [[97, 98, 99], [97, 100]], [(5, 3, 2)]),
  (Str.ofString "insert", [true, false, true], [[97, 98], [99]], [(9, 0, 0)]),
  (Str.ofString "replace", [true, false, false, true], [[97, 98, 99, 100], [98, 98]], [(0, 1, 0), (3, 0, 1)]),
  (Str.ofString "replace", [true, false, false], [[97, 98, 99, 100]], [(0, 1, 0), (0, 2, 0)]),
  (Str.ofString "replace", [true, false, false, true], [[97, 98, 99], [100]], [(0, 2, 0), (0, 1, 0)]),
  (Str.ofString "replace", [true, false, false, true], [[], [100]], [(0, (-1), 0), (0, 0, 0)]),
  (Str.ofString "replace", [true, false, false, true], [[97, 98, 99], [100]], [(2, 0, 1), (2, 0, 5)]),
  (Str.ofString "replace", [true, false, false, true], [[97, 98, 99], [100]], [(0, (-3), 0), (4, (-3), 2)]),
  (Str.ofString "repeat", [true, false], [[97, 98]], [(7, 3, 0)]),
  (Str.ofString "repeat", [true, false], [[97]], [(6, 11, 4)]),
  (Str.ofString "repeat", [true, false], [[97]], [(6, 10, 1)]),
  (Str.ofString "repeat", [true, false], [[97]], [(0, 1, 0)]),
  (Str.ofString "repeat", [true, false], [[97]], [(1, 0, 0)]),
  (Str.ofString "repeat", [true, false], [[97]], [(9, 0, 0)]),
  (Str.ofString "repeat", [true, false], [[97]], [(9, 0, 1)]),
  (Str.ofString "reverse", [true], [[97, 98, 99]], []),
  (Str.ofString "length", [true], [[97, 98, 233]], []),
  (Str.ofString "trim", [true], [[10, 32, 97, 32, 98, 32, 10]], []),
  (Str.ofString "trim", [true, true], [[97, 98, 99, 97, 98], [97, 98]], []),
  (Str.ofString "trimleft", [true, true], [[97, 98, 99, 97, 98], [98, 97]], []),
  (Str.ofString "trimright", [true], [[32, 97, 98, 32, 10]], []),
  (Str.ofString "index", [true, false], [[97, 98, 99]], [(8, 0, 11)]),
  (Str.ofString "index", [true, false], [[97, 98, 99]], [(8, 0, 0)]),
  (Str.ofString "insert", [true, false, true], [[97, 98], [99]], [(8, 0, 6)]),
  (Str.ofString "last", [true, true, false], [[97], [97, 97]], [(8, 0, 5)])]
theorem told_eq : toldV = rowsT.map fun d => rowV d.1 d.2.1 d.2.2.1 d.2.2.2 := by kernel_rfl
noncomputable def okRow (d : RowD) : Bool := d.2.2.1.all goodB && decide (d.2.1.length ≤ 8) && decide (d.2.2.1.length ≤ 8) && decide (d.2.2.2.length ≤ 8) && fits d.2.2.1.length d.2.2.2.length d.2.1 0 0
theorem rows_ok : rowsT.all okRow = true := by decide +kernel
/-- the rows' heads: a name and its sorts -/
noncomputable def heads : List (Str × List Bool) := [(Str.ofString "index", [true, false]), (Str.ofString "range", [true, false, false]), (Str.ofString "first", [true, true]), (Str.ofString "first", [true, true, false]), (Str.ofString "last", [true, true]), (Str.ofString "last", [true, true, false]), (Str.ofString "insert", [true, false, true]), (Str.ofString "replace", [true, false, false, true]), (Str.ofString "replace", [true, false, false]), (Str.ofString "repeat", [true, false]), (Str.ofString "reverse", [true]), (Str.ofString "length", [true]), (Str.ofString "trim", [true]), (Str.ofString "trim", [true, true]), (Str.ofString "trimleft", [true, true]), (Str.ofString "trimright", [true])]
theorem rows_heads : (rowsT.all fun d => heads.any fun e => decide (e.1 = d.1) && decide (e.2 = d.2.1)) = true := by decide +kernel
noncomputable def HeadOk (e : Str × List Bool) : Prop := ∀ b, Built e.2 ⟨[], [], ["string", e.1]⟩ b → RowH 0 e.1 b
theorem all_cons {α : Type} {P : α → Prop} {a : α} {l : List α} (h : P a) (k : ∀ x ∈ l, P x) : ∀ x ∈ a :: l, P x := fun x m => (List.mem_cons.mp m).elim (fun e => e ▸ h) (k x)
theorem h_index_ti : HeadOk ("index", [true, false]) := fun b h => by
  obtain ⟨r0, g0, x0, f0, rfl⟩ := h
  exact H_index r0 _ _ _ _ g0 f0
theorem h_range_tii : HeadOk ("range", [true, false, false]) := fun b h => by
  obtain ⟨r0, g0, x0, f0, x1, f1, rfl⟩ := h
  exact H_range r0 _ _ _ _ _ _ _ _ g0 f0 f1
theorem h_first_tt : HeadOk ("first", [true, true]) := fun b h => by
  obtain ⟨r0, g0, r1, g1, rfl⟩ := h
  exact H_first0 r0 r1  g0 g1 
theorem h_first_tti : HeadOk ("first", [true, true, false]) := fun b h => by
  obtain ⟨r0, g0, r1, g1, x0, f0, rfl⟩ := h
  exact H_first1 r0 r1 _ _ _ _ g0 g1 f0
theorem h_last_tt : HeadOk ("last", [true, true]) := fun b h => by
  obtain ⟨r0, g0, r1, g1, rfl⟩ := h
  exact H_last0 r0 r1  g0 g1 
theorem h_last_tti : HeadOk ("last", [true, true, false]) := fun b h => by
  obtain ⟨r0, g0, r1, g1, x0, f0, rfl⟩ := h
  exact H_last1 r0 r1 _ _ _ _ g0 g1 f0
theorem h_insert_tit : HeadOk ("insert", [true, false, true]) := fun b h => by
  obtain ⟨r0, g0, x0, f0, r1, g1, rfl⟩ := h
  exact H_insert r0 r1 _ _ _ _ g0 g1 f0
theorem h_replace_tiit : HeadOk ("replace", [true, false, false, true]) := fun b h => by
  obtain ⟨r0, g0, x0, f0, x1, f1, r1, g1, rfl⟩ := h
  exact H_replace6 r0 r1 _ _ _ _ _ _ _ _ g0 g1 f0 f1
theorem h_replace_tii : HeadOk ("replace", [true, false, false]) := fun b h => by
  obtain ⟨r0, g0, x0, f0, x1, f1, rfl⟩ := h
  exact H_replace5 r0 _ _ _ _ _ _ _ _ g0 f0 f1
theorem h_repeat_ti : HeadOk ("repeat", [true, false]) := fun b h => by
  obtain ⟨r0, g0, x0, f0, rfl⟩ := h
  exact H_repeat r0 _ _ _ _ g0 f0
theorem h_reverse_t : HeadOk ("reverse", [true]) := fun b h => by
  obtain ⟨r0, g0, rfl⟩ := h
  exact H_reverse r0  g0 
theorem h_length_t : HeadOk ("length", [true]) := fun b h => by
  obtain ⟨r0, g0, rfl⟩ := h
  exact H_length r0  g0 
theorem h_trim_t : HeadOk ("trim", [true]) := fun b h => by
  obtain ⟨r0, g0, rfl⟩ := h
  exact H_trim0 r0  g0 
theorem h_trim_tt : HeadOk ("trim", [true, true]) := fun b h => by
  obtain ⟨r0, g0, r1, g1, rfl⟩ := h
  exact H_trim1 r0 r1  g0 g1 
theorem h_trimleft_tt : HeadOk ("trimleft", [true, true]) := fun b h => by
  obtain ⟨r0, g0, r1, g1, rfl⟩ := h
  exact H_trimleft1 r0 r1  g0 g1 
theorem h_trimright_t : HeadOk ("trimright", [true]) := fun b h => by
  obtain ⟨r0, g0, rfl⟩ := h
  exact H_trimright0 r0  g0 
theorem heads_ok : ∀ e ∈ heads, HeadOk e := all_cons h_index_ti (all_cons h_range_tii (all_cons h_first_tt (all_cons h_first_tti (all_cons h_last_tt (all_cons h_last_tti (all_cons h_insert_tit (all_cons h_replace_tiit (all_cons h_replace_tii (all_cons h_repeat_ti (all_cons h_reverse_t (all_cons h_length_t (all_cons h_trim_t (all_cons h_trim_tt (all_cons h_trimleft_tt (all_cons h_trimright_t (fun _ m => nomatch m))))))))))))))))
theorem row_ok {r : PyData} (h : r ∈ toldV) (P : Int) : RrP (callP D0 9 "_law_row_right" [.val r, .pen] (some P)) := by
  rw [told_eq] at h
  obtain ⟨d, hd, rfl⟩ := List.mem_map.mp h
  obtain ⟨e, he, hq⟩ := List.any_eq_true.mp (List.all_eq_true.mp rows_heads d hd)
  have q := Bool.and_eq_true_iff.mp hq
  have hh := heads_ok e he
  have c4 := Bool.and_eq_true_iff.mp (List.all_eq_true.mp rows_ok d hd)
  have c3 := Bool.and_eq_true_iff.mp c4.1
  have c2 := Bool.and_eq_true_iff.mp c3.1
  have c1 := Bool.and_eq_true_iff.mp c2.1
  have hs : PyData.strOk d.1 = true := List.all_eq_true.mp (show rowsT.all (fun d => PyData.strOk d.1) = true by decide +kernel) d hd
  unfold HeadOk at hh
  rw [of_decide_eq_true q.1, of_decide_eq_true q.2] at hh
  exact rr hs (fun T m => good_of (List.all_eq_true.mp c1.1 T m)) (of_decide_eq_true c1.2) (of_decide_eq_true c2.2) (of_decide_eq_true c3.2) c4.2 hh P
theorem v_pencall {C : CallP} {n : Nat} {ρ : Loc} {f r : Str} {q1 q2 q3 q : Pos} {e : Expr} {d v : PyData} {k k' : Int} (hf : look ρ f = some .glob) (h1 : evP n C false ρ none (.Name r q2) = .ok d none) (h2 : evP n C false ρ none e = .ok (.int k) none) (hc : C f [.val d, .pen] (some k) = .ok v (some k')) (hv : flat v = true) :
    evP (n + 1) C false ρ none (.Call (.Name f q1) [.Name r q2, .List [e] q3] [] q) = .ok v none :=
  show nameE (evP n C false ρ) C ρ none [.Name r q2, .List [e] q3] f = _ from wh (glob_ok hf) (bd (cl h1) (bd (cl h2) (ob rfl (bd (cl hc) (wh hv rfl)))))
noncomputable def lwG : Loc := [("name", .unb), ("least", .unb), ("most", .unb), ("usage", .unb), ("due", .unb), ("many", .unb), ("_law_told", .glob), ("enumerate", .glob), ("_law_row_right", .glob), ("sum", .glob), ("len", .glob), ("_law_usages", .glob), ("_law_heard", .glob)]
noncomputable def lwL (L : PyData) (t k r : LV) : Loc := ("script", .val L) :: ("told", t) :: ("k", k) :: ("row", r) :: lwG
noncomputable def tailOf : List Stmt := (recL 52).body.drop 3
theorem law_tail (L a b : PyData) (T : List PyData) : (exsP (exP (callP D0 9) 60) tailOf (lwL L (.val (.list T)) (.val a) (.val b)) none).bind retR = .ok (.bool true) none := by kernel_rfl
noncomputable def LwP (R : Res PyData) : Prop := R = .ok (.bool true) none
theorem law_ok {zs : List Int} {B : Nat} (hl : zs.length ≤ 63) (hB : ∀ i ∈ zs, i.natAbs < 2 ^ B) (hB' : B ≤ 1048576) : LwP (callP D0 10 "law" [.val (.list (zs.map PyData.int))] none) := by
  have big := sizeLine_big
  have s1 := slice_ints (l := zs) (lo := none) (hi := some 63) (st := none) (by decide) (by lia)
  have hl2 := cut_len63 (l := zs) (hi := 63) (by decide) (by lia)
  have hB2 : ∀ i ∈ cutI zs none (some 63) none, i.natAbs < 2 ^ B := fun i hi => hB i (cut_mem hi)
  generalize cutI zs none (some 63) none = S at s1 hl2 hB2
  have ht : callP D0 9 "_law_told" [] none = .ok (.list toldV) none := told_ok
  have hlen := o_len_list (ys := toldV) (by rw [told_len]; lia)
  rw [told_len] at hlen
  have hlen' : builtinP ("len" : Str) [.list toldV] = some (.int 46) := hlen
  clear hlen
  have pw : binP .Pow (.int 10) (.int 30) = some (.int 1000000000000000000000000000000) := by kernel_rfl
  have ad : binP .Add (.int 1000000000000000000000000000000) (.int 57) = some (.int 1000000000000000000000000000057) := by kernel_rfl
  refine call_runP (k := 9) (rec := recL 52) (ρ := lwL (.list (zs.map PyData.int)) .unb .unb .unb) (by kernel_rfl) (by kernel_rfl) ?_
  (conv => arg 1; arg 1; arg 2; whnf)
  unfold lwL lwG
  apply P_next (ρ1 := lwL (.list (S.map PyData.int)) .unb .unb .unb) (p1 := none)
  · apply Eq.trans
    walk_at "m x"
    rfl
  unfold lwL lwG
  apply P_next (ρ1 := lwL (.list (S.map PyData.int)) (.val (.list toldV)) .unb .unb) (p1 := none)
  · apply Eq.trans
    walk_at "m x"
    rfl
  apply P_forN (g := fun (q : PyData × Nat) => PyData.tuple [.int (q.2 : Int), q.1]) (l := toldV.zipIdx) (R := fun j ρ p => p = none ∧ ((j = 0 ∧ ρ = lwL (.list (S.map PyData.int)) (.val (.list toldV)) .unb .unb) ∨ ∃ a b, ρ = lwL (.list (S.map PyData.int)) (.val (.list toldV)) (.val a) (.val b)))
  · unfold lwL lwG
    (show forItems true _ _ _ _ = _)
    with_reducible apply fi_enum
    · kernel_rfl
    · kernel_rfl
    · walk_at "m lk"
    · walk_at "m ev"
    · rw [told_len, walk_val (by walk_at "m lk")]; rfl
  · exact ⟨rfl, .inl ⟨rfl, rfl⟩⟩
  · rintro ⟨row, i⟩ hq j ρ p hj ⟨rfl, hR⟩
    have h2 : row ∈ toldV := by
      obtain ⟨_, h, e⟩ := List.mem_zipIdx hq
      rw [e]; exact List.getElem_mem _
    have s2 := slice_ints (l := S) (lo := some (i : Int)) (hi := none) (st := some 46) (by decide) (by lia)
    have hl3 := cut_lenK (l := S) (k := (i : Int)) (s := 46) (by lia) (by decide) (by lia)
    have sm := o_sum (l := cutI S (some (i : Int)) none (some 46)) (by lia)
    have sb := sum_bound (B := B) (cutI S (some (i : Int)) none (some 46)) fun x hx => hB2 x (cut_mem hx)
    have mb := o_mul_big (B := B) (i := (cutI S (some (i : Int)) none (some 46)).sum) (Nat.le_trans sb (Nat.mul_le_mul_right _ hl3)) hB'
    obtain ⟨p', hr⟩ := row_ok h2 ((cutI S (some (i : Int)) none (some 46)).sum * 1000000000000000000000000000057)
    refine ⟨lwL (.list (S.map PyData.int)) (.val (.list toldV)) (.val (.int i)) (.val row), none, ?_, rfl, .inr ⟨_, _, rfl⟩⟩
    rcases hR with ⟨_, rfl⟩ | ⟨a, b, rfl⟩
    · skip
      unfold lwL lwG
      apply turn_tuple (ρ1 := lwL (.list (S.map PyData.int)) (.val (.list toldV)) (.val (.int i)) (.val row))
      · with_reducible apply svs_cons
        · walk_at "m set"
        with_reducible apply svs_cons
        · with_reducible apply sv_list
          · rfl
          · walk_at "m loc"
          · walk_at "m put"
        exact svs_nil
      unfold lwL lwG
      with_reducible apply xs_any
      · with_reducible apply x_if
        · with_reducible apply t_not
          with_reducible apply t_call
          with_reducible apply v_pencall
          · walk_at "m lk"
          · walk_at "m ev"
          · walk_at "m ev"
          · exact hr
          · rfl
        · with_reducible apply cnd_f
          · rfl
          · exact xs_nil
      with_reducible apply ct_next
      exact xs_nil
    · skip
      unfold lwL lwG
      apply turn_tuple (ρ1 := lwL (.list (S.map PyData.int)) (.val (.list toldV)) (.val (.int i)) (.val row))
      · with_reducible apply svs_cons
        · walk_at "m set"
        with_reducible apply svs_cons
        · with_reducible apply sv_list
          · rfl
          · walk_at "m loc"
          · walk_at "m put"
        exact svs_nil
      unfold lwL lwG
      with_reducible apply xs_any
      · with_reducible apply x_if
        · with_reducible apply t_not
          with_reducible apply t_call
          with_reducible apply v_pencall
          · walk_at "m lk"
          · walk_at "m ev"
          · walk_at "m ev"
          · exact hr
          · rfl
        · with_reducible apply cnd_f
          · rfl
          · exact xs_nil
      with_reducible apply ct_next
      exact xs_nil
  · rintro ρ' p' ⟨rfl, hR⟩
    rcases hR with ⟨h, _⟩ | ⟨a, b, rfl⟩
    · rw [List.length_zipIdx, told_len] at h; cases h
    exact law_tail _ a b toldV
end

section
theorem ns_uniq {h : Heap} {a : Addr} {m m' : Str → Option Value} (x : h.Ns a m) (y : h.Ns a m') (n : Str) : m n = m' n := by
  obtain ⟨o, es, ep, ho, hd, _, hf⟩ := x
  obtain ⟨o', es', ep', ho', hd', _, hf'⟩ := y
  rw [ho] at ho'; cases ho'
  rw [hd] at hd'; cases hd'
  rw [← hf, ← hf']
/-! the text's defs in the heap behind the loading -/
noncomputable def scopeOk (sc : Scope) : Bool := !sc.isCoroutine && !sc.isGenerator && decide (sc.kind = .function)
noncomputable def defOk (e : List Nat × Nat) : Bool := match recAt e.2 with
  | some d => eqL d.name.cps.toList e.1 && decide (d.params.args.length ≤ 4) && scopeOk d.scope && enterOk d.scope (d.params.args.map (·.arg))
  | none => false
theorem defs_ok : defTable.all defOk = true := by decide +kernel
theorem eqL_eq : ∀ {a b : List Nat}, eqL a b = true → a = b
  | [], [], _ => rfl
  | a :: r, b :: s, h => by
    unfold eqL at h
    rw [Bool.and_eq_true] at h
    rw [Nat.eq_of_beq_eq_true h.1, eqL_eq h.2]
  | [], _ :: _, h => by cases h
  | _ :: _, [], h => by cases h
theorem seekT_mem {x : List Nat} {i : Nat} : ∀ {t : List (List Nat × Nat)}, seekT x t = some i → ∃ y, (y, i) ∈ t ∧ x = y
  | [], h => by cases h
  | (y, j) :: r, h => by
    unfold seekT at h
    cases he : eqL x y with
    | true => rw [he] at h; cases h; exact ⟨y, .head _, eqL_eq he⟩
    | false => rw [he] at h; obtain ⟨z, hz, e⟩ := seekT_mem h; exact ⟨z, .tail _ hz, e⟩
theorem D0_inv {f : Str} {d : DefRec} (h : D0 f = some d) : d ∈ recsT ∧ d.name = f ∧ d.params.args.length ≤ 4 ∧ scopeOk d.scope = true ∧ enterOk d.scope (d.params.args.map (·.arg)) = true := by
  unfold D0 at h
  cases hs : seekT f.cps.toList defTable with
  | none => rw [hs] at h; cases h
  | some i =>
    rw [hs] at h
    have h : recAt i = some d := h
    obtain ⟨y, hy, e⟩ := seekT_mem hs
    have hk := List.all_eq_true.mp defs_ok _ hy
    unfold defOk at hk
    rw [show recAt (y, i).2 = some d from h] at hk
    simp only [Bool.and_eq_true] at hk
    obtain ⟨⟨⟨h1, h2⟩, h3⟩, h4⟩ := hk
    refine ⟨List.mem_map.mpr ⟨(y, i), hy, ?_⟩, ?_, of_decide_eq_true h2, h3, h4⟩
    · show recL i = d
      unfold recL; rw [h]
    · have := eqL_eq h1
      rw [mk_toList d.name, mk_toList f, this, e]
/-- what each def binds -/
theorem binds_tab {pm code doc v0 v1 v2 v3 : Value} : recsT.map (fun d => bindArgs (PySem.Calls.docDef d.name d.params d.body d.scope pm code doc) ⟨[v0, v1, v2, v3].take d.params.args.length, []⟩) =
    mp (fun d => pure ((d.params.args.map (·.arg)).zip ([v0, v1, v2, v3].take d.params.args.length))) recsT := by kernel_rfl
theorem four_of {l : List Value} (h : l.length ≤ 4) : ∃ v0 v1 v2 v3, l = [v0, v1, v2, v3].take l.length := by
  cases l with
  | nil => exact ⟨.none, .none, .none, .none, rfl⟩
  | cons a l => cases l with
    | nil => exact ⟨a, .none, .none, .none, rfl⟩
    | cons b l => cases l with
      | nil => exact ⟨a, b, .none, .none, rfl⟩
      | cons c l => cases l with
        | nil => exact ⟨a, b, c, .none, rfl⟩
        | cons d l => cases l with
          | nil => exact ⟨a, b, c, d, rfl⟩
          | cons _ l => exact absurd h (Nat.not_le.mpr (Nat.le_add_left 5 _))
section
variable {q : Program} {lo : List Str} {mean : ExcName → Option Value} {mg mb : Str → Option Value} {H : Heap}
theorem fn_of (T : Top q lo mean mg mb H) (hq : recsOf q = recsT) {f : Str} {d : DefRec} (h : D0 f = some d) : ∃ a o fd, FnAt H mg f a o fd d.body d.params.args.length (d.params.args.map (·.arg)) ∧ fd.scope = d.scope ∧ enterOk d.scope (d.params.args.map (·.arg)) = true := by
  obtain ⟨h1, h2, h3, h4, h5⟩ := D0_inv h
  obtain ⟨a, o, pm, code, doc, e1, e2, e3, e4⟩ := T.fn d (hq ▸ h1)
  unfold scopeOk at h4
  simp only [Bool.and_eq_true, Bool.not_eq_true', decide_eq_true_eq] at h4
  exact ⟨a, o, PySem.Calls.docDef d.name d.params d.body d.scope pm code doc, ⟨h2 ▸ e1, e2, e3, rfl, e4, rfl, rfl, rfl, h4.1.1, h4.1.2, h4.2, fun s vals _ hl => (four_of (hl ▸ h3)).elim fun v0 z => z.elim fun v1 z => z.elim fun v2 z => z.elim fun v3 z => .of_eq (by rw [z, hl]; exact mp_eq (binds_tab (pm := pm) (code := code) (doc := doc)) d h1)⟩, rfl, h5⟩
theorem free_of (T : Top q lo mean mg mb H) {x : Str} (h : freeOk q lo x = true) : mg x = none ∧ mb x = bootBuiltins x := by
  unfold freeOk at h
  simp only [Bool.and_eq_true, Bool.not_eq_true'] at h
  obtain ⟨⟨⟨⟨⟨h1, h2⟩, h3⟩, h4⟩, h5⟩, h6⟩ := h
  have nc : ∀ {l : List Str} {x : Str}, l.contains x = false → x ∉ l := fun h m => by rw [List.contains_iff_mem.mpr m] at h; cases h
  exact ⟨T.free x (nc h1) (nc h2) (nc h3) (nc h4) (nc h5), T.builtins x (by intro e; subst e; simp at h6)⟩
theorem glo_of (T : Top q lo mean mg mb H) (h : bltNames.all (freeOk q lo) = true) : Glo H mg mb ∧ mg "Exception" = none ∧ mb "Exception" = some (.type "Exception") := by
  have all := List.all_eq_true.mp h
  have ex := free_of T (all "Exception" (List.mem_append_right blt10 (.head _)))
  exact ⟨⟨T.g, T.b, T.nolimit, fun f hf => free_of T (all f (List.mem_append_left [("Exception" : Str)] (show f ∈ blt10 from hf)))⟩, ex.1, by rw [ex.2]; kernel_rfl⟩
end
/-! the class and its two defs -/
theorem fnData_inv {d : Data} {fd : FuncData} (h : fnData d = some fd) : d = .func fd := val_inv (o := (dw d).fn) h
theorem clsData_inv {d : Data} {c : ClassData} (h : clsData d = some c) : d = .cls c := val_inv (o := (dw d).cl) h
theorem fldData_inv {d : Data} {vs : Array Value} (h : fldData d = some vs) : d = .fields vs := val_inv (o := (dw d).fl) h
theorem seqData_inv {d : Data} {q : Array Value × Nat} (h : seqData d = some q) : d = .seq q.1 q.2 := val_inv (o := (dw d).sq) h
theorem strData_inv {v : Value} {x : Str} (h : strData v = some x) : ∃ t, v = .str x t := val_inv (P := fun x => ∃ t, v = .str x t) h
/-- what is known of a function's object -/
structure FnSays (L : FnLook) (o : Obj) (fd : FuncData) : Prop where
  cls : o.cls = L.1
  data : o.data = .func fd
  look : (fd.body, fd.scope, fd.params, fd.code, fd.qualname, fd.closure.length, fd.globals, fd.builtins, fd.defaults, fd.kwdefaults) = L.2
theorem fnLook_inv {h : Heap} {a : Addr} {L : FnLook} (e : fnLook h a = some L) : ∃ o fd, h.get? a = some o ∧ FnSays L o fd := by
  obtain ⟨o, ho, e⟩ := bind_inv e
  obtain ⟨fd, hd, e⟩ := bind_inv e
  cases e
  exact ⟨o, fd, ho, rfl, fnData_inv hd, rfl⟩
theorem len_succ {α : Type} {l : List α} {n : Nat} (h : l.length = n + 1) : ∃ a r, l = a :: r ∧ r.length = n := by
  cases l with
  | nil => cases h
  | cons a r => exact ⟨a, r, rfl, Nat.succ.inj h⟩
theorem six {l : List (Option Value)} {x : Option Value} (h : l.length = 6) (h4 : l[4]? = some x) : ∃ k0 k1 k2 k3 k5, l = [k0, k1, k2, k3, x, k5] := by
  obtain ⟨k0, l0, rfl, h0⟩ := len_succ h
  obtain ⟨k1, l1, rfl, h1⟩ := len_succ h0
  obtain ⟨k2, l2, rfl, h2⟩ := len_succ h1
  obtain ⟨k3, l3, rfl, h3⟩ := len_succ h2
  obtain ⟨k4, l4', rfl, h4'⟩ := len_succ h3
  obtain ⟨k5, l5, rfl, h5⟩ := len_succ h4'
  exact ⟨k0, k1, k2, k3, k5, by rw [List.eq_nil_of_length_eq_zero h5, show k4 = x from Option.some.inj h4]⟩
theorem clsLook_inv {h : Heap} {a N : Addr} (e : clsLook h a = some (.type "type", [.ref a, .type "Exception", .type "BaseException", .type "object"], N, true, false, 6, some (some (.builtin "Exception.__new__")))) : IsC h a N := by
  obtain ⟨o, ho, e⟩ := bind_inv e
  obtain ⟨cd, hd, e⟩ := bind_inv e
  have e := Option.some.inj e
  have hd := clsData_inv hd
  obtain ⟨oc, od, odt, ⟨sl⟩⟩ := o
  obtain ⟨nm, bs, mro, ns, qn, hdi, sn, sub, ab, col, del⟩ := cd
  have e1 : oc = .type "type" := congrArg (·.1) e
  have e2 := congrArg (·.2.1) e
  have e3 := congrArg (·.2.2.1) e
  have e4 := congrArg (·.2.2.2.1) e
  have e5 := congrArg (·.2.2.2.2.1) e
  have e6 : sl.length = 6 := congrArg (·.2.2.2.2.2.1) e
  have e7 : (Array.mk sl)[4]? = some (some (.builtin "Exception.__new__")) := congrArg (·.2.2.2.2.2.2) e
  rw [show (Array.mk sl)[4]? = sl[4]? from List.getElem?_toArray] at e7
  obtain ⟨k0, k1, k2, k3, k5, hs⟩ := six e6 e7
  dsimp only at hd e2 e3 e4 e5
  rw [hd, hs, e1, e2, e3, e4, e5] at ho
  exact ⟨nm, qn, bs, sn, sub, ab, col, od, k0, k1, k2, k3, k5, ho⟩
theorem codeLook_inv {h : Heap} {a : Addr} {x : Str} (e : codeLook h a = some x) : h.CodeRec (.ref a) x := by
  obtain ⟨o, ho, e⟩ := bind_inv e
  obtain ⟨vs, hd, e⟩ := bind_inv e
  obtain ⟨v, hv, e⟩ := bind_inv e
  obtain ⟨t, rfl⟩ := strData_inv e
  exact ⟨a, o, vs, t, rfl, ho, fldData_inv hd, hv⟩
theorem seqLook_inv {h : Heap} {a : Addr} {n : Nat} (e : seqLook h a = some n) : ∃ o items m, h.get? a = some o ∧ o.data = .seq items m ∧ items.size = n := by
  obtain ⟨o, ho, e⟩ := bind_inv e
  obtain ⟨q, hd, e⟩ := bind_inv e
  exact ⟨o, q.1, q.2, ho, seqData_inv hd, Option.some.inj e⟩
end

section
noncomputable def initS : Arguments × List Stmt × Scope := match initDef with
  | some x => x
  | none => (⟨[], [], none, [], [], none, []⟩, [], ⟨.function, [], false, false, []⟩)
noncomputable def errS : Arguments × List Stmt × Scope := match errDef with
  | some x => x
  | none => (⟨[], [], none, [], [], none, []⟩, [], ⟨.function, [], false, false, []⟩)
noncomputable def theVal' : Look := (some (.type "function", .stmts initS.2.1, initS.2.2, initS.1, .ref 29, "Raised.__init__", 0, 3, 0, .ref 23, .none), some (.type "function", .stmts errS.2.1, errS.2.2, errS.1, .ref 44, "error", 0, 3, 0, .ref 38, .none),
      some (.type "type", [.ref 33, .type "Exception", .type "BaseException", .type "object"], 32, true, false, 6, some (some (.builtin "Exception.__new__"))),
      (true, [none, none, none, none, none, none, none, none, none, none, none, none, some (.ref 30)]), (true, [some (.ref 33), some (.ref 45)]), some "Raised.__init__", some "error", some 3, some 1)
theorem theVal_eq : theVal = some theVal' := by kernel_rfl
noncomputable def paramNames : List Str := ["self", "code", "value", "errorcode", "level", "ret"]
noncomputable def initScopeOk : Bool := scopeOk initS.2.2 && initS.2.2.names.all (fun y => !(y.2 == .local) || paramNames.contains y.1) && paramNames.all (fun x => initS.2.2.names.lookup x == some .local)
theorem init_scope : initScopeOk = true := by decide +kernel
noncomputable def initAttrs : Attrs := match initP (fun x => initS.2.2.names.lookup x) initS.2.1 [] with
  | some a => a
  | none => []
theorem init_attrs : initP (fun x => initS.2.2.names.lookup x) initS.2.1 [] = some initAttrs := by kernel_rfl
theorem attrs_look : initAttrs.lookup ("code" : Str) = some (some ("code" : Str)) ∧ initAttrs.lookup ("value" : Str) = some (some ("value" : Str)) ∧ initAttrs.lookup ("errorcode" : Str) = some (some ("errorcode" : Str)) := ⟨by decide +kernel, by decide +kernel, by decide +kernel⟩
theorem init_len : initS.2.1.length ≤ 100 := by decide +kernel
theorem err_scope : scopeOk errS.2.2 = true := by decide +kernel
theorem err_body : errBody (fun x => errS.2.2.names.lookup x) errS.2.1 = true := by decide +kernel
theorem init_bind {fd : FuncData} {s : Shared} {o : Obj} {x y z : Value} {m : Nat} {a b c d : Value} (hp : fd.params = initS.1) (hd : fd.defaults = .ref 23) (ho : s.heap.get? 23 = some o) (hs : o.data = .seq #[x, y, z] m) :
    BindsTo s fd ⟨[a, b, c, d], []⟩ [("self", a), ("code", b), ("value", c), ("errorcode", d), ("level", y), ("ret", z)] := by
  obtain ⟨n1, n2, ps, bd, sc, gl, cl, df, kd, dc, pm, an, co, ct, bl⟩ := fd
  simp only at hp hd
  subst hp hd
  exact BindsTo.of_defaults rfl ho hs rfl (by kernel_rfl)
theorem err_bind {fd : FuncData} {s : Shared} {o : Obj} {x : Value} {m : Nat} {vals : List Value} (hp : fd.params = errS.1) (hd : fd.defaults = .ref 38) (ho : s.heap.get? 38 = some o) (hs : o.data = .seq #[x] m) (hl : vals.length = 2) :
    BindsTo s fd ⟨vals, []⟩ ((["text", "errorcode"] : List Str).zip vals) := by
  obtain ⟨n1, n2, ps, bd, sc, gl, cl, df, kd, dc, pm, an, co, ct, bl⟩ := fd
  simp only at hp hd
  subst hp hd
  obtain ⟨a, l1, rfl, h1⟩ := len_succ hl
  obtain ⟨b, l2, rfl, h2⟩ := len_succ h1
  obtain rfl := List.eq_nil_of_length_eq_zero h2
  exact BindsTo.of_defaults rfl ho hs rfl (by kernel_rfl)
end

section
/-- the looks, one by one -/
structure TopAt (h0 H : Heap) : Prop where
  keep : ∀ b o, h0.get? b = some o → H.get? b = some o
  ini : fnLook h0 30 = some ((.type "function", .stmts initS.2.1, initS.2.2, initS.1, .ref 29, "Raised.__init__", 0, 3, 0, .ref 23, .none) : FnLook)
  err : fnLook h0 45 = some ((.type "function", .stmts errS.2.1, errS.2.2, errS.1, .ref 44, "error", 0, 3, 0, .ref 38, .none) : FnLook)
  cls : clsLook h0 33 = some ((.type "type", [.ref 33, .type "Exception", .type "BaseException", .type "object"], 32, true, false, 6, some (some (.builtin "Exception.__new__"))) : ClsLook)
  names : nameLook h0 32 xNames = (true, [none, none, none, none, none, none, none, none, none, none, none, none, some (.ref 30)])
  globs : nameLook h0 3 ["Raised", "error"] = (true, [some (.ref 33), some (.ref 45)])
  ci : codeLook h0 29 = some "Raised.__init__"
  ce : codeLook h0 44 = some "error"
  s3 : seqLook h0 23 = some 3
  s1 : seqLook h0 38 = some 1
theorem top_inv {H : Heap} (Y : TopSays H) : ∃ h0 : Heap, TopAt h0 H := by
  obtain ⟨h0, e, k⟩ := Y
  have e : theLook h0 = theVal' := Option.some.inj (e.trans theVal_eq)
  exact ⟨h0, k, congrArg (·.1) e, congrArg (·.2.1) e, congrArg (·.2.2.1) e, congrArg (·.2.2.2.1) e, congrArg (·.2.2.2.2.1) e, congrArg (·.2.2.2.2.2.1) e, congrArg (·.2.2.2.2.2.2.1) e, congrArg (·.2.2.2.2.2.2.2.1) e, congrArg (·.2.2.2.2.2.2.2.2) e⟩
theorem names_at {h H : Heap} (k : ∀ b o, h.get? b = some o → H.get? b = some o) {a : Addr} {xs : List Str} {vs : List (Option Value)} (e : nameLook h a xs = (true, vs)) : ∃ m, H.Ns a m ∧ xs.map m = vs := by
  unfold nameLook at e
  obtain ⟨e1, e2⟩ := Prod.mk.inj e
  exact ⟨_, (Heap.Ns.of_isNs e1).keeps k, e2⟩
theorem init_names : (∀ x : Str, initS.2.2.names.lookup x = some .local → x ∈ initNames) ∧ (∀ x ∈ initNames, initS.2.2.names.lookup x = some .local) := by
  have h := init_scope
  have c := Bool.and_eq_true_iff.mp h
  have c2 := Bool.and_eq_true_iff.mp c.1
  refine ⟨fun x hx => ?_, fun x hx => eq_of_beq (List.all_eq_true.mp c.2 x hx)⟩
  have z := List.all_eq_true.mp c2.2 _ (PySem.mem_of_lookup hx)
  exact List.contains_iff_mem.mp z
theorem scope_says {sc : Scope} (h : scopeOk sc = true) : sc.isCoroutine = false ∧ sc.isGenerator = false ∧ sc.kind = .function := by
  have c := Bool.and_eq_true_iff.mp h
  have c2 := Bool.and_eq_true_iff.mp c.1
  exact ⟨(Bool.not_eq_true' _).mp c2.1, (Bool.not_eq_true' _).mp c2.2, of_decide_eq_true c.2⟩
theorem wrong_shape : ∃ fp ea eb cp pos, (recL 3).body = [.Return (some (.Call (.Name "error" fp) [ea, eb] [] cp)) pos] ∧ notStar ea = true ∧ notStar eb = true ∧ (recL 3).scope.names.lookup ("usage" : Str) = some .local ∧ isGlob (locOf (recL 3).scope ["usage"] [.unb]) ("error" : Str) = true ∧
    ∀ (u : Str) (p : Option Int), u.length ≤ 1000 → isGlob (locOf (recL 3).scope ["usage"] [.val (.str u)]) ("error" : Str) = true ∧ evP 60 noC false (locOf (recL 3).scope ["usage"] [.val (.str u)]) p ea = .ok (.str (wrongMsg u)) p ∧
      evP 60 noC false (locOf (recL 3).scope ["usage"] [.val (.str u)]) p eb = .ok wrongCode p := by
  have e0 : (recL 3).body = (recL 3).body := rfl
  conv at e0 => rhs; whnf
  refine ⟨_, _, _, _, _, e0, by kernel_rfl, by kernel_rfl, by kernel_rfl, by kernel_rfl, ?_⟩
  intro u p hu
  have eL : locOf (recL 3).scope ["usage"] [.val (.str u)] = ([("usage", .val (.str u)), ("error", .glob)] : Loc) := by kernel_rfl
  rw [eL]
  have hsz := sizeLine_big
  have h1 : binP .Add (.str "wrong # args: should be \"") (.str u) = some (.str (("wrong # args: should be \"" : Str) ++ u)) := by
    refine o_add_str ?_
    rw [append_length]
    have : (Str.ofString "wrong # args: should be \"").length = 25 := by kernel_rfl
    lia
  have h2 : binP .Add (.str (("wrong # args: should be \"" : Str) ++ u)) (.str "\"") = some (.str (wrongMsg u)) := by
    refine o_add_str ?_
    rw [append_length, append_length]
    have : (Str.ofString "wrong # args: should be \"").length = 25 := by kernel_rfl
    have : (Str.ofString "\"").length = 1 := by kernel_rfl
    lia
  refine ⟨by kernel_rfl, ?_, ?_⟩
  · walk_at "m ev"
  · show _ = Res.ok (PyData.tuple [.str "TCL", .str "WRONGARGS"]) p
    walk_at "m ev"

section
variable {q : Program} {lo : List Str} {mean : ExcName → Option Value} {mg mb : Str → Option Value} {H h0 : Heap}
theorem map_none {m : Str → Option Value} {xs : List Str} {v : Value} (e : (xs ++ (["__init__"] : List Str)).map m = xs.map (fun _ => none) ++ [some v]) : (∀ a ∈ xs, m a = none) ∧ m "__init__" = some v := by
  rw [List.map_append] at e
  have z := List.append_inj e (by rw [List.length_map, List.length_map])
  exact ⟨fun a ha => List.map_inj_left.mp z.1 a ha, (List.cons.inj z.2).1⟩
theorem arr1 {l : Array Value} (h : l.size = 1) : ∃ x, l = #[x] := by
  obtain ⟨l⟩ := l
  cases l with
  | nil => cases h
  | cons x l => cases l with
    | nil => exact ⟨x, rfl⟩
    | cons _ _ => cases h
theorem arr3 {l : Array Value} (h : l.size = 3) : ∃ x y z, l = #[x, y, z] := by
  obtain ⟨l⟩ := l
  cases l with
  | nil => cases h
  | cons x l => cases l with
    | nil => cases h
    | cons y l => cases l with
      | nil => cases h
      | cons z l => cases l with
        | nil => exact ⟨x, y, z, rfl⟩
        | cons _ _ => cases h
theorem init_at (Y : TopAt h0 H) : ∃ oI fd, InitAt H 30 oI fd initS.2.1 initAttrs := by
  refine Classical.byContradiction fun hno => ?_
  obtain ⟨o, fd, ho, L⟩ := fnLook_inv Y.ini
  obtain ⟨s1, i1, m1, t1, t2, t3⟩ := seqLook_inv Y.s3
  obtain ⟨x, y, z, rfl⟩ := arr3 t3
  have l := L.look
  have f5 : fd.scope = initS.2.2 := congrArg (·.2.1) l
  have fc : fd.code = .ref 29 := congrArg (·.2.2.2.1) l
  have fq : fd.qualname = "Raised.__init__" := congrArg (·.2.2.2.2.1) l
  have so := scope_says (Bool.and_eq_true_iff.mp (Bool.and_eq_true_iff.mp init_scope).1).1
  exact hno ⟨o, fd, Y.keep _ _ ho, L.cls, L.data, congrArg (·.1) l, fc ▸ fq ▸ (codeLook_inv Y.ci).keeps Y.keep, List.eq_nil_of_length_eq_zero (congrArg (·.2.2.2.2.2.1) l), congrArg (·.2.2.2.2.2.2.1) l, congrArg (·.2.2.2.2.2.2.2.1) l,
    f5 ▸ so.1, f5 ▸ so.2.1, f5 ▸ so.2.2, f5 ▸ init_names.1, f5 ▸ init_names.2, f5 ▸ init_attrs, init_len, attrs_look.1, attrs_look.2.1, attrs_look.2.2, fun s a b c d st => ⟨_, _, init_bind (congrArg (·.2.2.1) l) (congrArg (·.2.2.2.2.2.2.2.2.1) l) (st _ _ (Y.keep _ _ t1)) t2⟩⟩
theorem err_at (Y : TopAt h0 H) (hn : mg "error" = some (.ref 45)) : ∃ a o fd body, FnAt H mg "error" a o fd body 2 ["text", "errorcode"] ∧ errBody (fun x => fd.scope.names.lookup x) body = true := by
  refine Classical.byContradiction fun hno => ?_
  obtain ⟨o, fd, ho, L⟩ := fnLook_inv Y.err
  obtain ⟨s1, i1, m1, t1, t2, t3⟩ := seqLook_inv Y.s1
  obtain ⟨x, rfl⟩ := arr1 t3
  have l := L.look
  have f5 : fd.scope = errS.2.2 := congrArg (·.2.1) l
  have fc : fd.code = .ref 44 := congrArg (·.2.2.2.1) l
  have fq : fd.qualname = "error" := congrArg (·.2.2.2.2.1) l
  have so := scope_says err_scope
  exact hno ⟨45, o, fd, errS.2.1, ⟨hn, Y.keep _ _ ho, L.data, congrArg (·.1) l, fc ▸ fq ▸ (codeLook_inv Y.ce).keeps Y.keep, List.eq_nil_of_length_eq_zero (congrArg (·.2.2.2.2.2.1) l), congrArg (·.2.2.2.2.2.2.1) l, congrArg (·.2.2.2.2.2.2.2.1) l,
    f5 ▸ so.1, f5 ▸ so.2.1, f5 ▸ so.2.2, fun s vals st hl => err_bind (congrArg (·.2.2.1) l) (congrArg (·.2.2.2.2.2.2.2.2.1) l) (st _ _ (Y.keep _ _ t1)) t2 hl⟩, f5 ▸ err_body⟩
theorem quiet_in : ∀ a ∈ quietNames, a ∈ (["__setattr__", "__getattribute__", "__getattr__", "code", "value", "errorcode", "level", "ret", "info", "is_noted", "line", "extra"] : List Str) := by decide +kernel
theorem rz_of (Y : TopSays H) (T : Top q lo mean mg mb H) (hq : recsOf q = recsT) (hf : bltNames.all (freeOk q lo) = true) : RzT H mg mb 33 ∧ RzW H mg mb 33 := by
  refine Classical.byContradiction fun hno => ?_
  obtain ⟨h0, Y⟩ := top_inv Y
  obtain ⟨G, x1', x2'⟩ := glo_of T hf
  obtain ⟨mN, hN, n1⟩ := names_at Y.keep Y.names
  obtain ⟨mG, hG, n2⟩ := names_at Y.keep Y.globs
  have n3 := List.cons.inj n2
  have n5 := List.cons.inj n3.2
  have n4 := map_none (xs := ["__setattr__", "__getattribute__", "__getattr__", "code", "value", "errorcode", "level", "ret", "info", "is_noted", "line", "extra"]) (v := .ref 30) (m := mN) n1
  have hC := (clsLook_inv Y.cls).keeps Y.keep
  obtain ⟨oI, fdI, I⟩ := init_at Y
  have quiet : ∀ a ∈ quietNames, mN a = none := fun a ha => n4.1 a (quiet_in a ha)
  have C : RzC H mg mb 33 := ⟨(ns_uniq T.g hG _).trans n3.1, T.g, T.b, T.nolimit, ⟨x1', x2'⟩, 32, mN, 30, oI, fdI, _, _, hC, hN, ⟨n4.1 _ (.head _), quiet⟩, n4.2, I⟩
  have E : RzE H mg mb 33 := ⟨C, err_at Y ((ns_uniq T.g hG _).trans n5.1)⟩
  obtain ⟨a, o, fd, Fn, w1, w2⟩ := fn_of T hq (f := "wrong_args") (d := recL 3) (by kernel_rfl)
  obtain ⟨fp, ea, eb, cp, pos, v1, v2, v3, v4, v5, v6⟩ := wrong_shape
  exact hno ⟨⟨C, 32, mN, hC, hN, n4.1 _ (.tail _ (.head _)), n4.1 _ (.tail _ (.tail _ (.head _))), quiet⟩, E, a, o, fd, _, Fn, w1 ▸ w2, fp, ea, eb, cp, pos, 60, v1, v2, v3, w1 ▸ v4, w1 ▸ v5, w1 ▸ v6⟩
end
end

section
theorem fits_int {i : Int} (h : PyData.weight (.int i) ≤ 2 ^ 20) : i.natAbs < 2 ^ 1048576 := by
  rw [PyData.weight] at h
  split at h
  · rename_i h0
    rw [eq_of_beq h0]
    exact Nat.pow_pos (by decide)
  · exact Nat.lt_of_lt_of_le Nat.lt_log2_self (Nat.pow_le_pow_right (by decide) h)
theorem fits_all : ∀ {zs : List Int} {n : Nat}, PyData.weightAll (zs.map PyData.int) ≤ n → ∀ i ∈ zs, PyData.weight (.int i) ≤ n
  | z :: r, n, h, i, hi => by
    rw [List.map_cons, PyData.weightAll] at h
    rcases List.mem_cons.mp hi with rfl | hi
    · lia
    · exact fits_all (by lia) i hi
theorem law_goes {prog q : Program} {w : World} {lo : List Str} {mean : ExcName → Option Value} {mg mb : Str → Option Value} {s₁ : Shared} {fa x : Addr} {zs : List Int} {as : List Addr} {Q E : Value → Shared → Prop}
    (Y : TopSays s₁.heap) (T : Top q lo mean mg mb s₁.heap) (hq : recsOf q = recsT) (hf : bltNames.all (freeOk q lo) = true) (hmg : mg "law" = some (.ref fa)) (r : Reads s₁.heap (.ref x) (.list (zs.map .int)) as)
    (hl : zs.length ≤ 63) (hB : (PyData.list (zs.map PyData.int)).layable0 = true) (k : ∀ s', (∀ b o, s₁.heap.get? b = some o → s'.heap.get? b = some o) → s'.os = s₁.os → s'.gens = s₁.gens → Q (.bool true) s') :
    wpAny (model prog w) callerA (call (.ref fa) [.ref x]) Q E s₁ := by
  obtain ⟨RT, RW⟩ := rz_of Y T hq hf
  obtain ⟨G, _, _⟩ := glo_of T hf
  have C := call_all (prog := prog) (w := w) G RT RW (fun f d h => fn_of T hq h) 10 callerA rfl (by decide +kernel) (by decide +kernel) rfl
  have hw : PyData.weightAll (zs.map PyData.int) ≤ 2 ^ 20 := by
    unfold PyData.layable0 at hB
    rw [Bool.and_eq_true, PyData.weight] at hB
    exact of_decide_eq_true hB.2
  have L := law_ok hl (fun i hi => fits_int (fits_all hw i hi)) (Nat.le_refl _)
  unfold LwP at L
  obtain ⟨a, fo, fd, n1, n2, n3, c⟩ := C "law" [.val (.list (zs.map PyData.int))] none (by rw [L]; exact fun h => by cases h)
  rw [hmg] at n1
  cases n1
  refine c none [.ref x] s₁ Q E (fun _ _ h => h) (fun l hl env m => by cases hl; cases m) trivial (.val ⟨as, r, fun _ _ h => nomatch h⟩ .nil) ?_
  rw [L]
  rintro v s' ⟨h', tk, rfl, _, kk⟩ _ ⟨as', rv, _⟩
  cases rv
  exact k _ (kk fun _ _ h => h) rfl rfl
end

end Mine
end
open PySem PySem.W PyProof.Rows
set_option Elab.async false
set_option maxRecDepth 100000 in
set_option maxHeartbeats 8000000 in
theorem PySem.Challenge.cw_oj0051_01_holds : PySem.Challenge.rw_oj0051_01.Holds := by
  w_on
  refine holds_law Mine.said ?_
  intro said
  refine holds_open (q := Mine.viewQ) (loose := Mine.looseN) (Xt := fun s => xlAt Mine.viewQ [] s && recOk (RowW.records Mine.rowO.toRowW) s) (XP := XL Mine.viewQ []) (Yf := Hook.obs Mine.myHook) (Ya := Hook.val Mine.myHook) (YP := Hook.says Mine.myHook) (N := 3630) Mine.left (Hook.of Mine.myHook) (Hook.keeps Mine.myHook) (fun s e => xl_of s (Bool.and_eq_true_iff.mp e).1) XL.keeps (by rfl) (by rfl) (by rfl) (fun s e => recFacts_of (Bool.and_eq_true_iff.mp e).2) (by rfl) (by first | assumption | decide +kernel) (by decide +kernel) ⟨rfl, rfl, rfl, rfl, rfl, by decide +kernel⟩ ?hw ?hc
  case hw => w_witness2
  intro w s₀ s₁ mg mb G Y fa o pm cd doc dV kV ho hd hcd hD hmg hg args vals as hpre hlay hrd hwl hlo
  refine Ground.open G ?_
  intro T B D TE TW
  wrow_args hpre hlay hrd hwl hlo
  rename PyData.layable0 (PyData.list _) = true => hB
  rename Reads _ _ (PyData.list _) _ => r0
  rename_i hcond _
  refine Mine.law_goes Y T (by kernel_rfl) (by decide +kernel) hmg r0 (by omega) hB ?_
  intro s' k os gens
  refine ⟨.inl ⟨.bool true, .bool true, [], rfl, ?_, ?_, ?_, ?_⟩, .of_keep k, os, .of_eq (gens.trans hg)⟩
  · exact raisesW_false (by wrow_none_raised)
  · exact .bool _
  · first | exact postW_of rfl rfl rfl | exact postW_of (by wrow_shape) (by wtm_val) (by w_fin)
  · exact fun _ => ⟨List.nodup_nil, fun _ h => nomatch h⟩

