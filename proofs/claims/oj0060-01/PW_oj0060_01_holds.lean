import PyProof.Rows.All
import Wide.All
import OpenK.AllK
import Wide.FinOn
import PyProof.ListIndexNeg
import PyProof.InstStoreFacts
import PyProof.RulesAs
import PyProof.RulesDel
import Lean
import PySem.Challenge.RW_oj0060_01
set_option maxRecDepth 100000
set_option Elab.async true
set_option genSizeOf false
set_option genInjectivity false
namespace Mine
open PySem
structure Xc where
 text : Str
 code : List Str
 deriving DecidableEq
inductive O2 | add | sub | mul | fdiv | fmod | pow
inductive Cp | eq | ne | lt | le | gt | ge | in_ | notIn
inductive Me | find | index | isalnum | isdigit | isalpha | lower
inductive Bi | len | ord
mutual
inductive Ex
 | none
 | bool (b : Bool)
 | int (i : Int)
 | str (s : Str)
 | v (i : Nat)
 | bin (o : O2) (a b : Ex)
 | neg (a : Ex)
 | cmp (o : Cp) (a b : Ex)
 | cmp2 (o p : Cp) (a b c : Ex)
 | and (l : Exs)
 | or (l : Exs)
 | not (a : Ex)
 | ite (c a b : Ex)
 | idx (a i : Ex)
 | slNS (a hi : Ex)
 | slSN (a lo : Ex)
 | slSS (a lo hi : Ex)
 | tup (l : Exs)
 | lst (l : Exs)
 | call (f : Nat) (l : Exs)
 | raised (l : Exs)
 | bi (b : Bi) (a : Ex)
 | me (m : Me) (o : Ex) (l : Exs)
 | dget (a : Str) (x : Ex) (b : Str) (y : Ex) (k d : Ex)
 | ownTup
 | ownLast
 | ownSome
 | ladd (a b : Ex)               -- list + list
 | lsl (a hi : Ex)               -- list[:hi]
 | joinL (a : Ex)                -- ''.join(list)
inductive Exs
 | nil
 | cons (a : Ex) (l : Exs)
end
inductive Cm
 | skip
 | seq (a b : Cm)
 | set (i : Nat) (e : Ex)
 | setT (is : List Nat) (e : Ex)
 | aug (i : Nat) (o : O2) (e : Ex)
 | ite (c : Ex) (a b : Cm)
 | wh (c : Ex) (b : Cm)
 | forR (i : Nat) (e : Ex) (b : Cm)
 | forE (i : Nat) (e : Ex) (b : Cm)
 | ret (e : Ex)
 | raise (e : Ex)
 | brk
 | cont
 | mkOwn
 | mkOwnA (i : Nat) (e : Ex)     -- own, x = [], e
 | mkOwnB (i : Nat) (e : Ex)     -- x, own = e, []
 | push (e : Ex)
 | setLast (e : Ex)
 | retOwn
 | retPush (e : Ex)
 | retTPush (a e : Ex)           -- return (a, own + [e])
 | heardS (i f : Nat) (e : Ex)   -- x = _law_heard(f, e)
 | heardIf (f : Nat) (e : Ex) (j : Nat) (a b : Cm)  -- if _law_heard(f, e) != x
structure Cf where
 names : List Str
 own : Option Str
 fns : List Str
 globs : List Str
 hd : Bool
noncomputable def slotOf (c : Cf) (x : Str) : Option Nat := if c.own == some x then none else c.names.findIdx? (· == x)
noncomputable def o2Of : Operator -> Option O2
 | .Add => some .add | .Sub => some .sub | .Mult => some .mul | .FloorDiv => some .fdiv | .Mod => some .fmod | .Pow => some .pow
 | _ => none
noncomputable def cpOf : CmpOp -> Option Cp
 | .Eq => some .eq | .NotEq => some .ne | .Lt => some .lt | .LtE => some .le | .Gt => some .gt | .GtE => some .ge | .In => some .in_ | .NotIn => some .notIn
 | _ => none
noncomputable def meOf (x : Str) : Option Me :=
 if x == ("find" : Str) then some .find else if x == ("index" : Str) then some .index else if x == ("isalnum" : Str) then some .isalnum
 else if x == ("isdigit" : Str) then some .isdigit else if x == ("isalpha" : Str) then some .isalpha else if x == ("lower" : Str) then some .lower else none
noncomputable def biOf (x : Str) : Option Bi :=
 if x == ("len" : Str) then some .len else if x == ("ord" : Str) then some .ord else none
noncomputable def vw {σ τ : Type} (ci : σ -> Nat) (C : τ -> σ) (k : Nat) (g : ∀ e, ci e = k -> { x : τ // e = C x }) (e : σ) : Option τ := if h : ci e = k then some (g e h).1 else none
theorem vw_eq {σ τ : Type} {ci : σ -> Nat} {C : τ -> σ} {k : Nat} {g : ∀ e, ci e = k -> { x : τ // e = C x }} {e : σ} {x : τ} (h : vw ci C k g e = some x) : e = C x := by
 unfold vw at h
 split at h
 ·exact Option.some.inj h ▸ (g e _).2
 ·cases h
noncomputable def asBinP : Expr -> Option (Expr × Operator × Expr × Pos) := vw Expr.ctorIdx (fun x => .BinOp x.1 x.2.1 x.2.2.1 x.2.2.2) 2 fun e h => PySem.Expr.BinOp.elim e h fun a b c d => ⟨(a, b, c, d), rfl⟩
noncomputable def asNegP : Expr -> Option (UnaryOp × Expr × Pos) := vw Expr.ctorIdx (fun x => .UnaryOp x.1 x.2.1 x.2.2) 3 fun e h => PySem.Expr.UnaryOp.elim e h fun a b c => ⟨(a, b, c), rfl⟩
noncomputable def asIfP : Expr -> Option (Expr × Expr × Expr × Pos) := vw Expr.ctorIdx (fun x => .IfExp x.1 x.2.1 x.2.2.1 x.2.2.2) 5 fun e h => PySem.Expr.IfExp.elim e h fun a b c d => ⟨(a, b, c, d), rfl⟩
noncomputable def asDictP : Expr -> Option (List (Option Expr) × List Expr × Pos) := vw Expr.ctorIdx (fun x => .Dict x.1 x.2.1 x.2.2) 6 fun e h => PySem.Expr.Dict.elim e h fun a b c => ⟨(a, b, c), rfl⟩
noncomputable def asCmpP : Expr -> Option (Expr × List CmpOp × List Expr × Pos) := vw Expr.ctorIdx (fun x => .Compare x.1 x.2.1 x.2.2.1 x.2.2.2) 15 fun e h => PySem.Expr.Compare.elim e h fun a b c d => ⟨(a, b, c, d), rfl⟩
noncomputable def asCallKP : Expr -> Option (Expr × List Expr × List Keyword × Pos) := vw Expr.ctorIdx (fun x => .Call x.1 x.2.1 x.2.2.1 x.2.2.2) 16 fun e h => PySem.Expr.Call.elim e h fun a b c d => ⟨(a, b, c, d), rfl⟩
noncomputable def asConstP : Expr -> Option (Const × Nat × Pos) := vw Expr.ctorIdx (fun x => .Constant x.1 x.2.1 x.2.2) 19 fun e h => PySem.Expr.Constant.elim e h fun a b c => ⟨(a, b, c), rfl⟩
noncomputable def asAttrP : Expr -> Option (Expr × Str × Pos) := vw Expr.ctorIdx (fun x => .Attribute x.1 x.2.1 x.2.2) 20 fun e h => PySem.Expr.Attribute.elim e h fun a b c => ⟨(a, b, c), rfl⟩
noncomputable def asSubP : Expr -> Option (Expr × Expr × Pos) := vw Expr.ctorIdx (fun x => .Subscript x.1 x.2.1 x.2.2) 21 fun e h => PySem.Expr.Subscript.elim e h fun a b c => ⟨(a, b, c), rfl⟩
noncomputable def asNameP : Expr -> Option (Str × Pos) := vw Expr.ctorIdx (fun x => .Name x.1 x.2) 23 fun e h => PySem.Expr.Name.elim e h fun a b => ⟨(a, b), rfl⟩
noncomputable def asListP : Expr -> Option (List Expr × Pos) := vw Expr.ctorIdx (fun x => .List x.1 x.2) 24 fun e h => PySem.Expr.List.elim e h fun a b => ⟨(a, b), rfl⟩
noncomputable def asTupP : Expr -> Option (List Expr × Nat × Pos) := vw Expr.ctorIdx (fun x => .Tuple x.1 x.2.1 x.2.2) 25 fun e h => PySem.Expr.Tuple.elim e h fun a b c => ⟨(a, b, c), rfl⟩
noncomputable def asSliceP : Expr -> Option (Option Expr × Option Expr × Option Expr × Pos) := vw Expr.ctorIdx (fun x => .Slice x.1 x.2.1 x.2.2.1 x.2.2.2) 26 fun e h => PySem.Expr.Slice.elim e h fun a b c d => ⟨(a, b, c, d), rfl⟩
noncomputable def asBoolP : Expr -> Option (BoolOp × List Expr × Pos) := vw Expr.ctorIdx (fun x => .BoolOp x.1 x.2.1 x.2.2) 0 fun e h => PySem.Expr.BoolOp.elim e h fun a b c => ⟨(a, b, c), rfl⟩
noncomputable def asFnP : Stmt -> Option (Str × Arguments × List Stmt × List Expr × Option Expr × List TypeParam × Scope × Option Scope × Str × Pos) := vw Stmt.ctorIdx (fun x => .FunctionDef x.1 x.2.1 x.2.2.1 x.2.2.2.1 x.2.2.2.2.1 x.2.2.2.2.2.1 x.2.2.2.2.2.2.1 x.2.2.2.2.2.2.2.1 x.2.2.2.2.2.2.2.2.1 x.2.2.2.2.2.2.2.2.2) 0 fun e h => PySem.Stmt.FunctionDef.elim e h fun a b c d e f g h i j => ⟨(a, b, c, d, e, f, g, h, i, j), rfl⟩
noncomputable def asRetP : Stmt -> Option (Option Expr × Pos) := vw Stmt.ctorIdx (fun x => .Return x.1 x.2) 3 fun e h => PySem.Stmt.Return.elim e h fun a b => ⟨(a, b), rfl⟩
noncomputable def asAsgP : Stmt -> Option (List Expr × Expr × Pos) := vw Stmt.ctorIdx (fun x => .Assign x.1 x.2.1 x.2.2) 5 fun e h => PySem.Stmt.Assign.elim e h fun a b c => ⟨(a, b, c), rfl⟩
noncomputable def asAugP : Stmt -> Option (Expr × Operator × Expr × Pos) := vw Stmt.ctorIdx (fun x => .AugAssign x.1 x.2.1 x.2.2.1 x.2.2.2) 7 fun e h => PySem.Stmt.AugAssign.elim e h fun a b c d => ⟨(a, b, c, d), rfl⟩
noncomputable def asForP : Stmt -> Option (Expr × Expr × List Stmt × List Stmt × Pos) := vw Stmt.ctorIdx (fun x => .For x.1 x.2.1 x.2.2.1 x.2.2.2.1 x.2.2.2.2) 9 fun e h => PySem.Stmt.For.elim e h fun a b c d e => ⟨(a, b, c, d, e), rfl⟩
noncomputable def asWhP : Stmt -> Option (Expr × List Stmt × List Stmt × Pos) := vw Stmt.ctorIdx (fun x => .While x.1 x.2.1 x.2.2.1 x.2.2.2) 11 fun e h => PySem.Stmt.While.elim e h fun a b c d => ⟨(a, b, c, d), rfl⟩
noncomputable def asIteP : Stmt -> Option (Expr × List Stmt × List Stmt × Pos) := vw Stmt.ctorIdx (fun x => .If x.1 x.2.1 x.2.2.1 x.2.2.2) 12 fun e h => PySem.Stmt.If.elim e h fun a b c d => ⟨(a, b, c, d), rfl⟩
noncomputable def asRaiP : Stmt -> Option (Option Expr × Option Expr × Pos) := vw Stmt.ctorIdx (fun x => .Raise x.1 x.2.1 x.2.2) 16 fun e h => PySem.Stmt.Raise.elim e h fun a b c => ⟨(a, b, c), rfl⟩
noncomputable def asExpP : Stmt -> Option (Expr × Pos) := vw Stmt.ctorIdx (fun x => .Expr x.1 x.2) 24 fun e h => PySem.Stmt.Expr.elim e h fun a b => ⟨(a, b), rfl⟩
noncomputable def asBrkP : Stmt -> Option (Pos) := vw Stmt.ctorIdx (fun x => .Break x) 26 fun e h => PySem.Stmt.Break.elim e h fun a => ⟨(a), rfl⟩
noncomputable def asCntP : Stmt -> Option (Pos) := vw Stmt.ctorIdx (fun x => .Continue x) 27 fun e h => PySem.Stmt.Continue.elim e h fun a => ⟨(a), rfl⟩
noncomputable def asName (e : Expr) : Option Str := (asNameP e).map (·.1)
noncomputable def asCall (e : Expr) : Option (Expr × List Expr × Pos) := (asCallKP e).bind fun x => if x.2.2.1.isEmpty then some (x.1, x.2.1, x.2.2.2) else none
noncomputable def asAttr (e : Expr) : Option (Expr × Str × Pos) := asAttrP e
noncomputable def asTup (e : Expr) : Option (List Expr) := (asTupP e).map (·.1)
noncomputable def asList (e : Expr) : Option (List Expr) := (asListP e).map (·.1)
noncomputable def asPlus (e : Expr) : Option (Expr × Expr) := (asBinP e).bind fun x => if x.2.1 = .Add then some (x.1, x.2.2.1) else none
noncomputable def asSlice (e : Expr) : Option (Option Expr × Option Expr × Option Expr) := (asSliceP e).map fun x => (x.1, x.2.1, x.2.2.1)
noncomputable def asDict (e : Expr) : Option (List (Option Expr) × List Expr) := (asDictP e).map fun x => (x.1, x.2.1)
noncomputable def asConst (e : Expr) : Option Const := (asConstP e).map (·.1)
noncomputable def strC (c : Const) : Option { s : Str // c = .str s } := match c with
 | .str s => some ⟨s, rfl⟩
 | _ => none
noncomputable def intC (c : Const) : Option { i : Int // c = .int i } := match c with
 | .int s => some ⟨s, rfl⟩
 | _ => none
noncomputable def asStr (e : Expr) : Option Str := (asConst e).bind fun c => (strC c).map (·.1)
noncomputable def asNeg (e : Expr) : Option Expr := (asNegP e).bind fun x => if x.1 = .USub then some x.2.1 else none
noncomputable def asInt (e : Expr) : Option Int := (asConst e).bind fun c => (intC c).map (·.1)
noncomputable def orE {α : Type} (a b : Option α) : Option α := match a with
 | some x => some x
 | none => b
noncomputable def one {α : Type} : List α -> Option α
 | [] => none
 | a :: l => if l.isEmpty then some a else none
noncomputable def two {α : Type} : List α -> Option (α × α)
 | [] => none
 | a :: l => (one l).map fun b => (a, b)
noncomputable def isOwn (c : Cf) (e : Expr) : Bool := match asName e with
 | some x => c.own == some x
 | none => false
noncomputable def isM1 (e : Expr) : Bool := (asNeg e).bind asInt == some 1
noncomputable def isNil (e : Expr) : Bool := match asList e with
 | some l => l.isEmpty
 | none => false
noncomputable def isNe (o : CmpOp) : Bool := decide (o = .NotEq)
noncomputable def isCall (e : Expr) : Bool := e.ctorIdx == 16
noncomputable def okM (o : Expr) (ap p : Pos) (l : List Expr) : Bool := !isCall o && ap.endLine == p.line && decide (l.length < 20)
structure Dg where
 a : Str
 x : Expr
 b : Str
 y : Expr
 k : Expr
 d : Expr
noncomputable def dgetOf (o : Expr) (l : List Expr) : Option Dg :=
 (asDict o).bind fun kv => (two kv.1).bind fun ks => (two kv.2).bind fun xy => ks.1.bind fun k1 => ks.2.bind fun k2 => (asStr k1).bind fun a => (asStr k2).bind fun b => (two l).map fun kd => ⟨a, xy.1, b, xy.2, kd.1, kd.2⟩
noncomputable def isStrLit (e : Expr) : Bool := match asStr e with
 | some s => s.cps.size == 0
 | none => false
noncomputable def isLname (e : Expr) : Bool := match asName e with
 | some x => x == ("pieces" : Str) || x == ("due" : Str)
 | none => false
section
variable (c : Cf) (re : Expr -> Option Ex) (res : List Expr -> Option Exs)
noncomputable def lPlus (e : Expr) : Option Ex := (asPlus e).bind fun ab => if (asList ab.2).isSome then (re ab.1).bind fun a => (re ab.2).map fun b => .ladd a b else none
noncomputable def lCall (e : Expr) : Option Ex := (asCall e).bind fun fl => (asAttr fl.1).bind fun om => (one fl.2.1).bind fun x =>
 if isStrLit om.1 && (om.2.1 == ("join" : Str) && okM om.1 om.2.2 fl.2.2 [x]) then (re x).map .joinL else none
noncomputable def lSub1 (a i : Expr) : Option Ex := if isLname a then (asSlice i).bind fun s => if s.1.isNone && s.2.2.isNone then s.2.1.bind fun h => (re a).bind fun a => (re h).map fun h => .lsl a h else none else none
noncomputable def lSub (e : Expr) : Option Ex := (asSubP e).bind fun x => lSub1 re x.1 x.2.1
noncomputable def lLaw (e : Expr) : Option Ex := orE (lPlus re e) (orE (lCall re e) (lSub re e))
noncomputable def cConst : Const -> Option Ex
 | .none => some .none
 | .bool b => some (.bool b)
 | .int i => some (.int i)
 | .str s => some (.str s)
 | _ => none
noncomputable def cUn (o : UnaryOp) (a : Expr) : Option Ex := match o with
 | .USub => (re a).map .neg
 | .Not => (re a).map .not
 | _ => none
noncomputable def cBo (o : BoolOp) (l : List Expr) : Option Ex := if l.isEmpty then none else match o with
 | .And => (res l).map .and
 | .Or => (res l).map .or
noncomputable def cCmp1 (l : Expr) (o : CmpOp) (r : Expr) : Option Ex :=
 if isOwn c l && isNil r then (if isNe o then some .ownSome else none) else (cpOf o).bind fun o => (re l).bind fun l => (re r).map fun r => .cmp o l r
noncomputable def cCmp2 (l : Expr) (o p : CmpOp) (m r : Expr) : Option Ex := (cpOf o).bind fun o => (cpOf p).bind fun p => (re l).bind fun l => (re m).bind fun m => (re r).map fun r => .cmp2 o p l m r
noncomputable def cCmp (l : Expr) (os : List CmpOp) (rs : List Expr) : Option Ex := match one os with
 | some o => (one rs).bind fun r => cCmp1 c re l o r
 | none => (two os).bind fun op => (two rs).bind fun mr => cCmp2 re l op.1 op.2 mr.1 mr.2
noncomputable def cSlice (a : Expr) (lo hi : Option Expr) : Option Ex := match lo with
 | none => hi.bind fun h => (re a).bind fun a => (re h).map fun h => .slNS a h
 | some l => (match hi with
  | none => (re a).bind fun a => (re l).map fun l => .slSN a l
  | some h => (re a).bind fun a => (re l).bind fun l => (re h).map fun h => .slSS a l h)
noncomputable def cSub (a i : Expr) : Option Ex := match asSlice i with
 | some s => if s.2.2.isNone then cSlice re a s.1 s.2.1 else none
 | none => if isOwn c a then (if isM1 i then some .ownLast else none) else (re a).bind fun a => (re i).map fun i => .idx a i
noncomputable def cCallN (f : Str) (l : List Expr) : Option Ex :=
 if !c.globs.contains f then none
 else if f == ("Raised" : Str) then (if l.isEmpty then none else (res l).map .raised)
 else if f == ("tuple" : Str) then (one l).bind fun a => if isOwn c a then some .ownTup else none
 else match biOf f with
  | some b => (one l).bind fun a => if isOwn c a then none else (re a).map (.bi b)
  | none => if l.isEmpty then none else (c.fns.findIdx? (· == f)).bind fun i => (res l).map fun l => .call i l
noncomputable def cCallA (o : Expr) (m : Str) (ap p : Pos) (l : List Expr) : Option Ex := match dgetOf o l with
 | some d => if m == ("get" : Str) && okM o ap p l then (re d.x).bind fun x => (re d.y).bind fun y => (re d.k).bind fun k => (re d.d).map fun e => .dget d.a x d.b y k e else none
 | none => if okM o ap p l then (meOf m).bind fun m => (re o).bind fun o => (res l).map fun l => .me m o l else none
noncomputable def cCall (f : Expr) (l : List Expr) (p : Pos) : Option Ex := match asName f with
 | some x => cCallN c re res x l
 | none => (asAttr f).bind fun om => cCallA re res om.1 om.2.1 om.2.2 p l
noncomputable def aConst (e : Expr) : Option Ex := (asConstP e).bind fun x => cConst x.1
noncomputable def aName (e : Expr) : Option Ex := (asNameP e).bind fun x => (slotOf c x.1).map .v
noncomputable def aBin (e : Expr) : Option Ex := (asBinP e).bind fun x => (o2Of x.2.1).bind fun o => (re x.1).bind fun l => (re x.2.2.1).map fun r => .bin o l r
noncomputable def aUn (e : Expr) : Option Ex := (asNegP e).bind fun x => cUn re x.1 x.2.1
noncomputable def aBo (e : Expr) : Option Ex := (asBoolP e).bind fun x => cBo res x.1 x.2.1
noncomputable def aCmp (e : Expr) : Option Ex := (asCmpP e).bind fun x => cCmp c re x.1 x.2.1 x.2.2.1
noncomputable def aIf (e : Expr) : Option Ex := (asIfP e).bind fun x => (re x.1).bind fun t => (re x.2.1).bind fun a => (re x.2.2.1).map fun b => .ite t a b
noncomputable def aSub (e : Expr) : Option Ex := (asSubP e).bind fun x => cSub c re x.1 x.2.1
noncomputable def aTup (e : Expr) : Option Ex := (asTupP e).bind fun x => (res x.1).map .tup
noncomputable def aLst (e : Expr) : Option Ex := (asListP e).bind fun x => (res x.1).map .lst
noncomputable def aCall (e : Expr) : Option Ex := (asCallKP e).bind fun x => if x.2.2.1.isEmpty then cCall c re res x.1 x.2.1 x.2.2.2 else none
noncomputable def cE1 (e : Expr) : Option Ex :=
 orE (aConst e) <| orE (aName c e) <| orE (aBin re e) <| orE (aUn re e) <| orE (aBo res e) <| orE (aCmp c re e) <| orE (aIf re e) <| orE (aSub c re e) <| orE (aTup res e) <| orE (aLst res e) (aCall c re res e)
end
noncomputable def kindE (e : Expr) : Bool := [19, 23, 2, 3, 0, 15, 5, 21, 25, 24, 16].contains e.ctorIdx
mutual
noncomputable def cE (c : Cf) : Nat -> Expr -> Option Ex
 | 0, _ => none
 | n + 1, e => if kindE e then orE (if c.hd then lLaw (cE c n) e else none) (cE1 c (cE c n) (cEs c n) e) else none
noncomputable def cEs (c : Cf) : Nat -> List Expr -> Option Exs
 | 0, _ => none
 | n + 1, l => match l with
  | [] => some .nil
  | a :: l => (cE c n a).bind fun a => (cEs c n l).map fun l => .cons a l
end
noncomputable def slotsOf (c : Cf) : List Expr -> Option (List Nat)
 | [] => some []
 | t :: l => (asName t).bind fun x => (slotOf c x).bind fun i => (slotsOf c l).map fun l => i :: l
noncomputable def augOf : Operator -> Option O2
 | .Add => some .add
 | .Sub => some .sub
 | _ => none
noncomputable def okSw (a b : Expr) : Bool := [a, b].all (foldedForSure 8) || ![a, b].all (constantsAlone 8)
noncomputable def isDisp (e : Expr) : Bool := [24, 25].contains e.ctorIdx
noncomputable def heardCall (c : Cf) (e : Expr) : Option (Nat × Expr) :=
 (asCall e).bind fun fl => (asName fl.1).bind fun f => (two fl.2.1).bind fun ge => (asName ge.1).bind fun g =>
  if c.hd && (f == ("_law_heard" : Str) && (c.globs.contains f && c.globs.contains g)) then (c.fns.findIdx? (· == g)).map fun i => (i, ge.2) else none
section
variable (c : Cf) (re : Expr -> Option Ex) (rs : List Stmt -> Option Cm)
noncomputable def lHeardS (t e : Expr) : Option Cm := (asName t).bind fun x => (heardCall c e).bind fun ie => (slotOf c x).bind fun j => (re ie.2).map fun e => .heardS j ie.1 e
noncomputable def asNe (e : Expr) : Option (Expr × Expr) := (asCmpP e).bind fun x => (one x.2.1).bind fun o => if o = .NotEq then (one x.2.2.1).map fun r => (x.1, r) else none
noncomputable def lHeardIf (t : Expr) (a b : List Stmt) : Option Cm := (asNe t).bind fun ly => (heardCall c ly.1).bind fun ie => (asName ly.2).bind fun y => (slotOf c y).bind fun j => (re ie.2).bind fun e => (rs a).bind fun a => (rs b).map fun b => .heardIf ie.1 e j a b
noncomputable def bHs (s : Stmt) : Option Cm := (asAsgP s).bind fun x => (one x.1).bind fun t => lHeardS c re t x.2.1
noncomputable def bHi (s : Stmt) : Option Cm := (asIteP s).bind fun x => lHeardIf c re rs x.1 x.2.1 x.2.2.1
noncomputable def lStmt (s : Stmt) : Option Cm := orE (bHs c re s) (bHi c re rs s)
noncomputable def cAss2 (ts : List Expr) (x y : Str) (a b e : Expr) : Option Cm :=
 if c.own == some x then (if isNil a && okSw a b then (slotOf c y).bind fun i => (re b).map fun b => .mkOwnA i b else none)
 else if c.own == some y then (if isNil b && okSw a b then (slotOf c x).bind fun i => (re a).map fun a => .mkOwnB i a else none)
 else if okSw a b then (slotsOf c ts).bind fun is => (re e).map fun e => .setT is e
 else none
noncomputable def cAssT (ts : List Expr) (e : Expr) : Option Cm := match asTup e with
 | some es => (two es).bind fun ab => (two ts).bind fun t => (asName t.1).bind fun x => (asName t.2).bind fun y => cAss2 c re ts x y ab.1 ab.2 e
 | none => if isDisp e then none else (slotsOf c ts).bind fun is => (re e).map fun e => .setT is e
noncomputable def cName (x : Str) (e : Expr) : Option Cm := if c.own == some x then (if isNil e then some .mkOwn else none) else (slotOf c x).bind fun i => (re e).map fun e => .set i e
noncomputable def dTup (t e : Expr) : Option Cm := (asTupP t).bind fun x => cAssT c re x.1 e
noncomputable def dSub (t e : Expr) : Option Cm := (asSubP t).bind fun x => if isOwn c x.1 && isM1 x.2.1 then (re e).map .setLast else none
noncomputable def cAss1 (t e : Expr) : Option Cm := orE ((asName t).bind fun x => cName c re x e) <| orE (dTup c re t e) (dSub c re t e)
noncomputable def rangeOf (e : Expr) : Option Expr := (asCall e).bind fun fl => (asName fl.1).bind fun f => if f == ("range" : Str) && c.globs.contains f then one fl.2.1 else none
noncomputable def cFor (i : Nat) (e : Expr) (b : List Stmt) : Option Cm := match rangeOf c e with
 | some e => (re e).bind fun e => (rs b).map fun b => .forR i e b
 | none => (re e).bind fun e => (rs b).map fun b => .forE i e b
noncomputable def plusOf (e : Expr) : Option Expr := (asPlus e).bind fun ol => if isOwn c ol.1 then (asList ol.2).bind one else none
noncomputable def tplusOf (e : Expr) : Option (Expr × Expr) := (asTup e).bind fun l => (two l).bind fun xe => (plusOf c xe.2).map fun a => (xe.1, a)
noncomputable def cRet (e : Expr) : Option Cm :=
 if isOwn c e then some .retOwn else match plusOf c e with
 | some a => (re a).map .retPush
 | none => (match tplusOf c e with
  | some xa => (re xa.1).bind fun x => (re xa.2).map fun a => .retTPush x a
  | none => (re e).map .ret)
noncomputable def cExpr (e : Expr) : Option Cm := (asCall e).bind fun fl => (asAttr fl.1).bind fun om => (one fl.2.1).bind fun x =>
 if isOwn c om.1 && (om.2.1 == ("append" : Str) && okM om.1 om.2.2 fl.2.2 [x]) then (re x).map .push else none
noncomputable def bAsg (s : Stmt) : Option Cm := (asAsgP s).bind fun x => (one x.1).bind fun t => cAss1 c re t x.2.1
noncomputable def bAug (s : Stmt) : Option Cm := (asAugP s).bind fun y => (asName y.1).bind fun x => (slotOf c x).bind fun i => (augOf y.2.1).bind fun o => (re y.2.2.1).map fun e => .aug i o e
noncomputable def bIte (s : Stmt) : Option Cm := (asIteP s).bind fun x => (re x.1).bind fun t => (rs x.2.1).bind fun a => (rs x.2.2.1).map fun b => .ite t a b
noncomputable def bWh (s : Stmt) : Option Cm := (asWhP s).bind fun x => if x.2.2.1.isEmpty then (re x.1).bind fun t => (rs x.2.1).map fun a => .wh t a else none
noncomputable def bFor (s : Stmt) : Option Cm := (asForP s).bind fun y => if y.2.2.2.1.isEmpty then (asName y.1).bind fun x => (slotOf c x).bind fun i => cFor c re rs i y.2.1 y.2.2.1 else none
noncomputable def bRet (s : Stmt) : Option Cm := (asRetP s).bind fun x => x.1.bind fun e => cRet c re e
noncomputable def bRai (s : Stmt) : Option Cm := (asRaiP s).bind fun x => if x.2.1.isNone then x.1.bind fun e => (re e).map .raise else none
noncomputable def bExp (s : Stmt) : Option Cm := (asExpP s).bind fun x => cExpr c re x.1
noncomputable def bBrk (s : Stmt) : Option Cm := (asBrkP s).bind fun _ => some .brk
noncomputable def bCnt (s : Stmt) : Option Cm := (asCntP s).bind fun _ => some .cont
noncomputable def cS1 (s : Stmt) : Option Cm :=
 orE (bAsg c re s) <| orE (bAug c re s) <| orE (bIte re rs s) <| orE (bWh re rs s) <| orE (bFor c re rs s) <| orE (bRet c re s) <| orE (bRai re s) <| orE (bExp c re s) <| orE (bBrk s) (bCnt s)
end
mutual
noncomputable def cS (c : Cf) : Nat -> Stmt -> Option Cm
 | 0, _ => none
 | n + 1, st => orE (if c.hd then lStmt c (cE c n) (cSs c n) st else none) (cS1 c (cE c n) (cSs c n) st)
noncomputable def cSs (c : Cf) : Nat -> List Stmt -> Option Cm
 | 0, _ => none
 | n + 1, l => match l with
  | [] => some .skip
  | a :: r => if r.isEmpty then cS c n a else (cS c n a).bind fun a => (cSs c n r).map fun r => .seq a r
end
noncomputable def fnNames : List Str := PySem.Challenge.pw_oj0060_01.main.body.map fun s => ((asFnP s).map (·.1)).getD Str.empty
noncomputable def fnP (i : Nat) : Option (Str × Arguments × List Stmt × Scope) := PySem.Challenge.pw_oj0060_01.main.body[i]?.bind fun s => (asFnP s).map fun x => (x.1, x.2.1, x.2.2.1, x.2.2.2.2.2.2.1)
noncomputable def bodyAt (i : Nat) : List Stmt := ((fnP i).map (·.2.2.1)).getD []
noncomputable def ownAt (i : Nat) : Option Str := if i == 20 || i == 46 then some ("parts" : Str) else if i == 24 then some ("words" : Str) else if i == 36 || i == 51 then some ("tokens" : Str) else if i == 53 then some ("found" : Str) else none
noncomputable def scopeAt (i : Nat) : Scope := ((fnP i).map (·.2.2.2)).getD { kind := .function, names := [], isGenerator := false, isCoroutine := false }
noncomputable def localsAt (i : Nat) : List Str := ((scopeAt i).names.filter (fun x => x.2 == .local)).map (·.1)
noncomputable def globsAt (i : Nat) : List Str := ((scopeAt i).names.filter (fun x => x.2 == .globalImplicit)).map (·.1)
noncomputable def argsAt (i : Nat) : Arguments := ((fnP i).map (·.2.1)).getD { posonlyargs := [], args := [], vararg := none, kwonlyargs := [], kw_defaults := [], kwarg := none, defaults := [] }
noncomputable def parsAt (i : Nat) : List Str := (argsAt i).args.map (·.arg)
noncomputable def nameAt (i : Nat) : Str := fnNames.getD i Str.empty
noncomputable def cfAt (i : Nat) : Cf := { names := localsAt i, own := ownAt i, fns := fnNames, globs := globsAt i, hd := i == 54 }
noncomputable def compAt (i : Nat) : Option Cm := cSs (cfAt i) 100 (bodyAt i)
noncomputable def idxs : List Nat := [4, 5, 6, 7, 11, 12, 13, 14, 15, 16, 17, 18, 19, 20, 21, 22, 23, 24, 26, 27, 28, 29, 30, 31, 32, 33, 34, 35, 36, 38, 39, 40, 41, 42, 43, 44, 45, 46, 47, 48, 49, 50, 51, 53]
noncomputable def sideOk (i : Nat) : Bool :=
 let sc := scopeAt i
 sc.kind == .function && !sc.isCoroutine && !sc.isGenerator && sc.names.all (fun x => x.2 == .local || x.2 == .globalImplicit) &&
 decide ((localsAt i).Nodup) && (localsAt i).take (parsAt i).length == parsAt i && (localsAt i).all (fun x => sc.names.lookup x == some .local && !(x == ("__debug__" : Str))) &&
 (globsAt i).all (fun x => sc.names.lookup x == some .globalImplicit && !(x == ("__debug__" : Str))) && (ownAt i).all (fun x => (localsAt i).contains x)
inductive Rs (α : Type) where
 | stuck
 | exc (x : Xc)
 | ok (a : α)
noncomputable def Rs.bind {α β : Type} : Rs α -> (α -> Rs β) -> Rs β
 | .stuck, _ => .stuck
 | .exc x, _ => .exc x
 | .ok a, f => f a
noncomputable def Rs.opt {α β : Type} (o : Option α) (f : α -> Rs β) : Rs β := match o with
 | some a => f a
 | none => .stuck
inductive V where
 | d (x : PyData)
 | exc (x : Xc)
noncomputable def V.dat : V -> Rs PyData
 | .d x => .ok x
 | .exc _ => .stuck
noncomputable def big : Nat := 1048576
noncomputable def okN (i : Int) : Bool := decide (0 <= i) && decide (i < 2 ^ 62)
noncomputable def sing (c : Nat) : Str := ⟨#[c]⟩
noncomputable def strAt (x : Str) (i : Int) : Option Nat := if okN i then x.cps[i.toNat]? else none
noncomputable def cutS (x : Str) (i j : Nat) : Str := ⟨x.cps.extract i j⟩
noncomputable def flat : PyData -> Bool
 | .int _ => true
 | .str _ => true
 | _ => false
noncomputable def isDigitA (c : Nat) : Bool := decide (48 <= c) && decide (c <= 57)
noncomputable def isAlphaA (c : Nat) : Bool := (decide (65 <= c) && decide (c <= 90)) || (decide (97 <= c) && decide (c <= 122))
noncomputable def isAlnumA (c : Nat) : Bool := isDigitA c || isAlphaA c
noncomputable def lowerA (c : Nat) : Nat := if decide (65 <= c) && decide (c <= 90) then c + 32 else c
noncomputable def strsOf : List PyData -> Option (List Str)
 | [] => some []
 | .str x :: l => (strsOf l).map (x :: ·)
 | _ => none
noncomputable def intD : PyData -> Rs Int
 | .int i => .ok i
 | _ => .stuck
noncomputable def strD : PyData -> Rs Str
 | .str x => .ok x
 | _ => .stuck
noncomputable def tupD : PyData -> Rs (List PyData)
 | .tuple l => .ok l
 | _ => .stuck
noncomputable def listD : PyData -> Rs (List PyData)
 | .list l => .ok l
 | _ => .stuck
noncomputable def op2I (o : O2) (a b : Int) : Rs PyData := match o with
 | .add => .ok (.int (a + b))
 | .sub => .ok (.int (a - b))
 | .mul => if b.natAbs < 256 then .ok (.int (a * b)) else if a.natAbs < 256 then .ok (.int (a * b)) else .stuck
 | .fdiv => if 0 < b /\ b < 2 ^ 62 then .ok (.int (a.fdiv b)) else .stuck
 | .fmod => if 0 < b /\ b < 2 ^ 62 then .ok (.int (a.fmod b)) else .stuck
 | .pow => if a = 8 /\ 0 <= b /\ b < 16 then .ok (.int (a ^ b.toNat)) else .stuck
noncomputable def op2S (o : O2) (a b : Str) : Rs PyData := match o with
 | .add => if a.cps.size + b.cps.size <= big then .ok (.str ⟨a.cps ++ b.cps⟩) else .stuck
 | _ => .stuck
noncomputable def op2 (o : O2) (x y : PyData) : Rs PyData := match x with
 | .int a => (intD y).bind fun b => op2I o a b
 | .str a => (strD y).bind fun b => op2S o a b
 | _ => .stuck
noncomputable def oneOf (y : Str) : Option Nat := one y.cps.toList
noncomputable def inD (x y : PyData) : Rs Bool := (strD x).bind fun a => match y with
 | .tuple l => Rs.opt (strsOf l) fun ls => .ok (ls.contains a)
 | .str b => Rs.opt (oneOf a) fun c => .ok (b.cps.toList.contains c)
 | _ => .stuck
noncomputable def cpI (o : Cp) (a b : Int) : Rs Bool := match o with
 | .eq => .ok (decide (a = b))
 | .ne => .ok (!decide (a = b))
 | .lt => .ok (decide (a < b))
 | .le => .ok (decide (a <= b))
 | .gt => .ok (decide (b < a))
 | .ge => .ok (decide (b <= a))
 | _ => .stuck
noncomputable def cpS (o : Cp) (a b : Str) : Rs Bool := match o with
 | .eq => .ok (decide (a = b))
 | .ne => .ok (!decide (a = b))
 | _ => .stuck
noncomputable def isTupD : PyData -> Bool
 | .tuple _ => true
 | _ => false
noncomputable def isListD : PyData -> Bool
 | .list _ => true
 | _ => false
noncomputable def cpE (o : Cp) (x y : PyData) : Rs Bool := match o with
 | .eq => if isTupD x && isTupD y then (if SeqAt.shaped x && SeqAt.shaped y then .ok (PyData.eqv x y) else .stuck) else .stuck
 | .ne => if isListD x && isListD y then (if SeqAt.shaped x && SeqAt.shaped y then .ok (!PyData.eqv x y) else .stuck) else .stuck
 | _ => .stuck
noncomputable def cpX (o : Cp) (x y : PyData) : Rs Bool := match x with
 | .int a => (intD y).bind fun b => cpI o a b
 | .str a => (strD y).bind fun b => cpS o a b
 | _ => cpE o x y
noncomputable def cpD (o : Cp) (x y : PyData) : Rs Bool := match o with
 | .in_ => inD x y
 | .notIn => (inD x y).bind fun r => .ok !r
 | _ => cpX o x y
noncomputable def itemAt (l : List PyData) (i : Int) : Rs PyData := if okN i then Rs.opt l[i.toNat]? .ok else .stuck
noncomputable def idxI (x : PyData) (i : Int) : Rs PyData := match x with
 | .str x => Rs.opt (strAt x i) fun c => .ok (.str (sing c))
 | .tuple l => itemAt l i
 | .list l => itemAt l i
 | _ => .stuck
noncomputable def idxD (x y : PyData) : Rs PyData := (intD y).bind fun i => idxI x i
noncomputable def endOf (n : Nat) : Option PyData -> Rs Nat
 | none => .ok n
 | some y => (intD y).bind fun i => if okN i then .ok i.toNat else .stuck
noncomputable def sliceD (x : PyData) (lo hi : Option PyData) : Rs PyData := (strD x).bind fun x =>
 if x.cps.size <= big then (endOf 0 lo).bind fun i => (endOf x.cps.size hi).bind fun j => .ok (.str (cutS x i j)) else .stuck
noncomputable def findFrom (x : Str) (c : Nat) (i : Nat) : Option Nat := ((x.cps.toList.drop i).findIdx? (· == c)).map (· + i)
noncomputable def fromD (n : Nat) : List PyData -> Rs Nat
 | [] => .ok 0
 | y :: r => if r.isEmpty then (intD y).bind fun i => if okN i && decide (i.toNat <= n) then .ok i.toNat else .stuck else .stuck
noncomputable def findD (x : Str) (xs : List PyData) : Rs (Option Nat) := match xs with
 | [] => .stuck
 | y :: r => (strD y).bind fun y => Rs.opt (oneOf y) fun c => if x.cps.size <= big then (fromD x.cps.size r).bind fun i => .ok (findFrom x c i) else .stuck
noncomputable def predD (p : Nat -> Bool) (x : Str) (xs : List PyData) : Rs PyData := if xs.isEmpty then (if x.cps.size = 0 then .ok (.bool false) else Rs.opt (oneOf x) fun c => if c < 128 then .ok (.bool (p c)) else .stuck) else .stuck
noncomputable def meS (m : Me) (x : Str) (xs : List PyData) : Rs PyData := match m with
 | .find => (findD x xs).bind fun o => .ok (.int (match o with | some k => (k : Int) | none => -1))
 | .index => (findD x xs).bind fun o => Rs.opt o fun k => .ok (.int k)
 | .isalnum => predD isAlnumA x xs
 | .isdigit => predD isDigitA x xs
 | .isalpha => predD isAlphaA x xs
 | .lower => if xs.isEmpty then Rs.opt (oneOf x) fun c => if c < 128 then .ok (.str (sing (lowerA c))) else .stuck else .stuck
noncomputable def meD (m : Me) (x : PyData) (xs : List PyData) : Rs PyData := (strD x).bind fun x => meS m x xs
noncomputable def lenD : PyData -> Rs Nat
 | .str x => .ok x.cps.size
 | .tuple l => .ok l.length
 | .list l => .ok l.length
 | _ => .stuck
noncomputable def biD (b : Bi) (x : PyData) : Rs PyData := match b with
 | .len => (lenD x).bind fun n => if n <= big then .ok (.int n) else .stuck
 | .ord => (strD x).bind fun x => Rs.opt (oneOf x) fun c => .ok (.int c)
noncomputable def codeD : List PyData -> Rs (List Str)
 | [] => .ok [⟨#[78, 79, 78, 69]⟩]
 | y :: r => if r.isEmpty then (tupD y).bind fun l => Rs.opt (strsOf l) .ok else .stuck
noncomputable def raisedD : List PyData -> Rs V
 | [] => .stuck
 | i :: r => (match r with
  | [] => .stuck
  | t :: r => (intD i).bind fun i => if i = 1 then (strD t).bind fun t => (codeD r).bind fun ls => .ok (.exc ⟨t, ls⟩) else .stuck)
structure Sg where
 env : List (Option PyData)
 own : Option (List PyData)
noncomputable def Sg.get (σ : Sg) (i : Nat) : Rs V := Rs.opt σ.env[i]? fun o => Rs.opt o fun x => .ok (.d x)
noncomputable def Sg.put (σ : Sg) (i : Nat) (x : PyData) : Sg := ⟨σ.env.set i (some x), σ.own⟩
noncomputable def boolOf : V -> Rs Bool
 | .d (.bool b) => .ok b
 | _ => .stuck
noncomputable abbrev Cfn := Nat -> List PyData -> Rs V
noncomputable def xList (x : Xc) : PyData := .list [.tuple [.int 1, .str x.text, .tuple (x.code.map .str)]]
noncomputable def heardR : Rs V -> Rs V
 | .ok (.d y) => .ok (.d y)
 | .ok (.exc _) => .stuck
 | .exc x => .ok (.d (xList x))
 | .stuck => .stuck
noncomputable def catS (ls : List Str) : Str := ⟨(ls.flatMap (·.cps.toList)).toArray⟩
noncomputable def laddD (x y : PyData) : Rs PyData := (listD x).bind fun a => (listD y).bind fun b => if a.length + b.length <= big then .ok (.list (a ++ b)) else .stuck
noncomputable def lslD (x y : PyData) : Rs PyData := (listD x).bind fun a => (intD y).bind fun j => if okN j && decide (a.length <= big) then .ok (.list (a.take j.toNat)) else .stuck
noncomputable def joinD (x : PyData) : Rs PyData := (listD x).bind fun a => Rs.opt (strsOf a) fun ls => if (catS ls).cps.size <= big && decide (ls.length <= big) then .ok (.str (catS ls)) else .stuck
mutual
noncomputable def ev (cf : Cfn) (σ : Sg) : Ex -> Rs V
 | .none => .ok (.d .none)
 | .bool b => .ok (.d (.bool b))
 | .int i => .ok (.d (.int i))
 | .str s => .ok (.d (.str s))
 | .v i => σ.get i
 | .bin o a b => (ev cf σ a).bind fun x => x.dat.bind fun x => (ev cf σ b).bind fun y => y.dat.bind fun y => (op2 o x y).bind fun r => .ok (.d r)
 | .neg a => (ev cf σ a).bind fun x => x.dat.bind fun x => (intD x).bind fun i => .ok (.d (.int (-i)))
 | .cmp o a b => (ev cf σ a).bind fun x => x.dat.bind fun x => (ev cf σ b).bind fun y => y.dat.bind fun y => (cpD o x y).bind fun r => .ok (.d (.bool r))
 | .cmp2 o p a b c => (ev cf σ a).bind fun x => x.dat.bind fun x => (ev cf σ b).bind fun y => y.dat.bind fun y => (cpD o x y).bind fun r =>
   if r then (ev cf σ c).bind fun z => z.dat.bind fun z => (cpD p y z).bind fun r => .ok (.d (.bool r)) else .ok (.d (.bool false))
 | .and l => (evAnd cf σ l).bind fun b => .ok (.d (.bool b))
 | .or l => (evOr cf σ l).bind fun b => .ok (.d (.bool b))
 | .not a => (ev cf σ a).bind fun x => (boolOf x).bind fun b => .ok (.d (.bool !b))
 | .ite c a b => (ev cf σ c).bind fun x => (boolOf x).bind fun t => if t then ev cf σ a else ev cf σ b
 | .idx a i => (ev cf σ a).bind fun x => x.dat.bind fun x => (ev cf σ i).bind fun y => y.dat.bind fun y => (idxD x y).bind fun r => .ok (.d r)
 | .slNS a h => (ev cf σ a).bind fun x => x.dat.bind fun x => (ev cf σ h).bind fun y => y.dat.bind fun y => (sliceD x none (some y)).bind fun r => .ok (.d r)
 | .slSN a l => (ev cf σ a).bind fun x => x.dat.bind fun x => (ev cf σ l).bind fun y => y.dat.bind fun y => (sliceD x (some y) none).bind fun r => .ok (.d r)
 | .slSS a l h => (ev cf σ a).bind fun x => x.dat.bind fun x => (ev cf σ l).bind fun y => y.dat.bind fun y => (ev cf σ h).bind fun z => z.dat.bind fun z => (sliceD x (some y) (some z)).bind fun r => .ok (.d r)
 | .tup l => (evs cf σ l).bind fun xs => .ok (.d (.tuple xs))
 | .lst l => (evs cf σ l).bind fun xs => .ok (.d (.list xs))
 | .call f l => (evs cf σ l).bind fun xs => cf f xs
 | .raised l => (evs cf σ l).bind fun xs => raisedD xs
 | .bi b a => (ev cf σ a).bind fun x => x.dat.bind fun x => (biD b x).bind fun r => .ok (.d r)
 | .me m o l => (ev cf σ o).bind fun x => x.dat.bind fun x => (strD x).bind fun s => (evs cf σ l).bind fun xs => (meS m s xs).bind fun r => .ok (.d r)
 | .dget a x b y k d => (ev cf σ x).bind fun x => x.dat.bind fun x => (ev cf σ y).bind fun y => y.dat.bind fun y => (ev cf σ k).bind fun k => k.dat.bind fun k => (ev cf σ d).bind fun d => d.dat.bind fun d =>
   (strD k).bind fun k => (intD x).bind fun x => (intD y).bind fun y => (intD d).bind fun d => if a = b then .stuck else .ok (.d (.int (if k = a then x else if k = b then y else d)))
 | .ownTup => Rs.opt σ.own fun xs => if xs.length <= big then .ok (.d (.tuple xs)) else .stuck
 | .ownLast => Rs.opt σ.own fun xs => Rs.opt xs.getLast? fun x => .ok (.d x)
 | .ownSome => Rs.opt σ.own fun xs => .ok (.d (.bool (!xs.isEmpty)))
 | .ladd a b => (ev cf σ a).bind fun x => x.dat.bind fun x => (ev cf σ b).bind fun y => y.dat.bind fun y => (laddD x y).bind fun r => .ok (.d r)
 | .lsl a h => (ev cf σ a).bind fun x => x.dat.bind fun x => (ev cf σ h).bind fun y => y.dat.bind fun y => (lslD x y).bind fun r => .ok (.d r)
 | .joinL a => (ev cf σ a).bind fun x => x.dat.bind fun x => (joinD x).bind fun r => .ok (.d r)
noncomputable def evs (cf : Cfn) (σ : Sg) : Exs -> Rs (List PyData)
 | .nil => .ok []
 | .cons a l => (ev cf σ a).bind fun x => x.dat.bind fun x => (evs cf σ l).bind fun xs => .ok (x :: xs)
noncomputable def evAnd (cf : Cfn) (σ : Sg) : Exs -> Rs Bool
 | .nil => .ok true
 | .cons a l => (ev cf σ a).bind fun x => (boolOf x).bind fun b => if b then evAnd cf σ l else .ok false
noncomputable def evOr (cf : Cfn) (σ : Sg) : Exs -> Rs Bool
 | .nil => .ok false
 | .cons a l => (ev cf σ a).bind fun x => (boolOf x).bind fun b => if b then .ok true else evOr cf σ l
end
inductive Out where
 | next (σ : Sg)
 | brk (σ : Sg)
 | cont (σ : Sg)
 | ret (v : V)
noncomputable def Sg.puts (σ : Sg) : List Nat -> List PyData -> Option Sg
 | [], l => if l.isEmpty then some σ else none
 | i :: is, l => (match l with | [] => none | x :: xs => (σ.put i x).puts is xs)
noncomputable def loopW (test : Sg -> Rs Bool) (body : Sg -> Rs Out) : Nat -> Sg -> Rs Out
 | 0, _ => .stuck
 | k + 1, σ => (test σ).bind fun t => if t then (body σ).bind fun o => (match o with
   | .next σ' => loopW test body k σ'
   | .cont σ' => loopW test body k σ'
   | .brk σ' => .ok (.next σ')
   | .ret v => .ok (.ret v)) else .ok (.next σ)
noncomputable def loopL (i : Nat) (body : Sg -> Rs Out) : List PyData -> Sg -> Rs Out
 | [], σ => .ok (.next σ)
 | x :: l, σ => (body (σ.put i x)).bind fun o => match o with
   | .next σ' => loopL i body l σ'
   | .cont σ' => loopL i body l σ'
   | .brk σ' => .ok (.next σ')
   | .ret v => .ok (.ret v)
noncomputable def rangeD (n : Int) : List PyData := (List.range n.toNat).map fun (k : Nat) => PyData.int (k : Int)
noncomputable def itemsD : PyData -> Rs (List PyData)
 | .str x => if x.cps.size <= big then .ok (x.cps.toList.map fun c => .str (sing c)) else .stuck
 | .tuple l => if l.all flat then .ok l else .stuck
 | _ => .stuck
noncomputable def exc (cf : Cfn) (K : Nat) : Cm -> Sg -> Rs Out
 | .skip, σ => .ok (.next σ)
 | .seq a b, σ => (exc cf K a σ).bind fun o => match o with
  | .next σ' => exc cf K b σ'
  | o => .ok o
 | .set i e, σ => (ev cf σ e).bind fun x => x.dat.bind fun x => .ok (.next (σ.put i x))
 | .setT is e, σ => (ev cf σ e).bind fun x => x.dat.bind fun x => (tupD x).bind fun xs => Rs.opt (σ.puts is xs) fun σ' => .ok (.next σ')
 | .aug i o e, σ => (σ.get i).bind fun x => x.dat.bind fun x => (ev cf σ e).bind fun y => y.dat.bind fun y => (op2 o x y).bind fun r => .ok (.next (σ.put i r))
 | .ite c a b, σ => (ev cf σ c).bind fun x => (boolOf x).bind fun t => if t then exc cf K a σ else exc cf K b σ
 | .wh c b, σ => loopW (fun σ => (ev cf σ c).bind boolOf) (exc cf K b) K σ
 | .forR i e b, σ => (ev cf σ e).bind fun x => x.dat.bind fun x => (intD x).bind fun n => if okN n && decide (n <= 4096) then loopL i (exc cf K b) (rangeD n) σ else .stuck
 | .forE i e b, σ => (ev cf σ e).bind fun x => x.dat.bind fun x => (itemsD x).bind fun l => loopL i (exc cf K b) l σ
 | .ret e, σ => (ev cf σ e).bind fun v => .ok (.ret v)
 | .raise e, σ => (ev cf σ e).bind fun v => match v with
  | .exc x => .exc x
  | _ => .stuck
 | .brk, σ => .ok (.brk σ)
 | .cont, σ => .ok (.cont σ)
 | .mkOwn, σ => if σ.own.isNone then .ok (.next ⟨σ.env, some []⟩) else .stuck
 | .mkOwnA i e, σ => if σ.own.isNone then (ev cf σ e).bind fun x => x.dat.bind fun x => if flat x then .ok (.next ⟨(σ.put i x).env, some []⟩) else .stuck else .stuck
 | .mkOwnB i e, σ => if σ.own.isNone then (ev cf σ e).bind fun x => x.dat.bind fun x => .ok (.next ⟨(σ.put i x).env, some []⟩) else .stuck
 | .push e, σ => Rs.opt σ.own fun xs => (ev cf σ e).bind fun x => x.dat.bind fun x => if xs.length < big then .ok (.next ⟨σ.env, some (xs ++ [x])⟩) else .stuck
 | .setLast e, σ => Rs.opt σ.own fun xs => (ev cf σ e).bind fun x => x.dat.bind fun x => if xs.isEmpty then .stuck else .ok (.next ⟨σ.env, some (xs.dropLast ++ [x])⟩)
 | .retOwn, σ => Rs.opt σ.own fun xs => .ok (.ret (.d (.list xs)))
 | .retPush e, σ => Rs.opt σ.own fun xs => (ev cf σ e).bind fun x => x.dat.bind fun x => if xs.length < big then .ok (.ret (.d (.list (xs ++ [x])))) else .stuck
 | .retTPush a e, σ => Rs.opt σ.own fun xs => (ev cf σ a).bind fun y => y.dat.bind fun y => (ev cf σ e).bind fun x => x.dat.bind fun x => if xs.length < big then .ok (.ret (.d (.tuple [y, .list (xs ++ [x])]))) else .stuck
 | .heardS i f e, σ => (ev cf σ e).bind fun x => x.dat.bind fun x => (heardR (cf f [x])).bind fun y => y.dat.bind fun y => .ok (.next (σ.put i y))
 | .heardIf f e j a b, σ => (ev cf σ e).bind fun x => x.dat.bind fun x => (heardR (cf f [x])).bind fun y => y.dat.bind fun y => (σ.get j).bind fun z => z.dat.bind fun z => (cpD .ne y z).bind fun t =>
   if t then exc cf K a σ else exc cf K b σ
noncomputable def outV : Out -> Rs V
 | .ret v => .ok v
 | .next _ => .ok (.d .none)
 | _ => .stuck
end Mine
namespace Mine
open PySem PySem.W PyProof.Rows PySem.Calls
noncomputable abbrev Mw (w : World) : Model := model PySem.Challenge.pw_oj0060_01 w
noncomputable def Grow (s s' : Shared) : Prop := ∃ h' tk, s' = { s with heap := h', toks := tk } /\ s.heap.StaysIn h'
theorem Grow.refl (s : Shared) : Grow s s := ⟨s.heap, s.toks, rfl, fun _ _ e => e⟩
theorem Grow.trans {a b c : Shared} (x : Grow a b) (y : Grow b c) : Grow a c := by
 obtain ⟨h, t, rfl, k⟩ := x
 obtain ⟨h', t', rfl, k'⟩ := y
 exact ⟨h', t', rfl, fun b o e => k' b o (k b o e)⟩
theorem Grow.stays {s s' : Shared} (x : Grow s s') : s.heap.StaysIn s'.heap := by
 obtain ⟨h, t, rfl, k⟩ := x
 exact k
theorem Grow.tok (s : Shared) (k : Nat) : Grow s { s with toks := k } := ⟨s.heap, k, rfl, fun _ _ e => e⟩
theorem Grow.push (s : Shared) (o : Obj) : Grow s { s with heap := s.heap.push o } := ⟨_, s.toks, rfl, fun _ _ e => Heap.get?_push_of_some _ e⟩
theorem Grow.pushTok (s : Shared) (o : Obj) (k : Nat) : Grow s { s with heap := s.heap.push o, toks := k } := ⟨_, k, rfl, fun _ _ e => Heap.get?_push_of_some _ e⟩
noncomputable def Dn {α β : Type} (T : β -> Shared -> α -> Prop) (X : Value -> Shared -> Xc -> Prop) (Q : β -> Shared -> Prop) (E : Value -> Shared -> Prop) : Rs α -> Prop
 | .stuck => False
 | .ok x => ∀ v s', T v s' x -> Q v s'
 | .exc x => ∀ e s', X e s' x -> E e s'
theorem rb {α β : Type} {a : α} {f : α -> Rs β} : Rs.bind (.ok a) f = f a := rfl
theorem neg_le1 {n : Nat} (h : 0 < n) : -(n : Int) <= -1 := Int.neg_le_neg (Int.ofNat_le.mpr h)
theorem last_ix (n : Nat) : (-1 + (n : Int)).toNat = n - 1 := by
 rw [Int.add_comm]
 exact Int.toNat_sub n 1
theorem db {x : PyData} : V.dat (.d x) = .ok x := rfl
theorem op_fmod {a b : Int} (h : 0 < b /\ b < 2 ^ 62) : op2 .fmod (.int a) (.int b) = .ok (.int (a.fmod b)) := (if_pos h : (if 0 < b /\ b < 2 ^ 62 then Rs.ok (PyData.int (a.fmod b)) else .stuck) = _)
theorem op_fdiv {a b : Int} (h : 0 < b /\ b < 2 ^ 62) : op2 .fdiv (.int a) (.int b) = .ok (.int (a.fdiv b)) := (if_pos h : (if 0 < b /\ b < 2 ^ 62 then Rs.ok (PyData.int (a.fdiv b)) else .stuck) = _)
theorem op_pow {a b : Int} (h : a = 8 /\ 0 <= b /\ b < 16) : op2 .pow (.int a) (.int b) = .ok (.int (a ^ b.toNat)) := (if_pos h : (if a = 8 /\ 0 <= b /\ b < 16 then Rs.ok (PyData.int (a ^ b.toNat)) else .stuck) = _)
theorem end_eq {n : Nat} {y : PyData} : endOf n (some y) = (intD y).bind fun i => if okN i then .ok i.toNat else .stuck := rfl
theorem int_eq {i : Int} : intD (.int i) = .ok i := rfl
section
variable {cf : Cfn} {σ : Sg} {a b : Ex} {x y r : PyData}
theorem e_op2 {o : O2} (ha : ev cf σ a = .ok (.d x)) (hb : ev cf σ b = .ok (.d y)) (h : op2 o x y = .ok r) : ev cf σ (.bin o a b) = .ok (.d r) := by
 show (ev cf σ a).bind _ = _
 rw [ha]
 show (ev cf σ b).bind _ = _
 rw [hb]
 show (op2 o x y).bind _ = _
 rw [h]; rfl
theorem e_cp {o : Cp} {t : Bool} (ha : ev cf σ a = .ok (.d x)) (hb : ev cf σ b = .ok (.d y)) (h : cpD o x y = .ok t) : ev cf σ (.cmp o a b) = .ok (.d (.bool t)) := by
 show (ev cf σ a).bind _ = _
 rw [ha]
 show (ev cf σ b).bind _ = _
 rw [hb]
 show (cpD o x y).bind _ = _
 rw [h]; rfl
theorem e_ix (ha : ev cf σ a = .ok (.d x)) (hb : ev cf σ b = .ok (.d y)) (h : idxD x y = .ok r) : ev cf σ (.idx a b) = .ok (.d r) := by
 show (ev cf σ a).bind _ = _
 rw [ha]
 show (ev cf σ b).bind _ = _
 rw [hb]
 show (idxD x y).bind _ = _
 rw [h]; rfl
end
section
variable {α β γ δ : Type} {T : β -> Shared -> α -> Prop} {X X' : Value -> Shared -> Xc -> Prop} {Q : β -> Shared -> Prop} {E : Value -> Shared -> Prop}
theorem dn_bind {r : Rs γ} {g : γ -> Rs α} {T' : δ -> Shared -> γ -> Prop} {K : δ -> Shared -> Prop} (D : Dn T X Q E (r.bind g)) (hX : ∀ e s' x, X' e s' x -> X e s' x)
  (k : ∀ v s₁ x, T' v s₁ x -> Dn T X Q E (g x) -> K v s₁) : Dn T' X' K E r := by
 cases r with
 | stuck => exact D
 | exc x => exact fun e s' h => D e s' (hX e s' x h)
 | ok x => exact fun v s' t => k v s' x t D
theorem dn_bindX {r : Rs γ} {g : γ -> Rs α} {T' : δ -> Shared -> γ -> Prop} {K : δ -> Shared -> Prop} {E' : Value -> Shared -> Prop} (D : Dn T X Q E (r.bind g)) (hX : ∀ e s' x, X' e s' x -> (∀ e s', X e s' x -> E e s') -> E' e s')
  (k : ∀ v s₁ x, T' v s₁ x -> Dn T X Q E (g x) -> K v s₁) : Dn T' X' K E' r := by
 cases r with
 | stuck => exact D
 | exc x => exact fun e s' h => hX e s' x h D
 | ok x => exact fun v s' t => k v s' x t D
theorem dn_dat {r : Rs V} {g : PyData -> Rs α} {T' : δ -> Shared -> V -> Prop} {K : δ -> Shared -> Prop} (D : Dn T X Q E (r.bind fun x => x.dat.bind g)) (hX : ∀ e s' x, X' e s' x -> X e s' x)
  (k : ∀ v s₁ x, T' v s₁ (.d x) -> Dn T X Q E (g x) -> K v s₁) : Dn T' X' K E r := dn_bind D hX fun v s₁ x t D => by
 cases x with
 | d x => exact k v s₁ x t D
 | exc x => exact D.elim
theorem dn_mono {T' : β -> Shared -> α -> Prop} {r : Rs α} (D : Dn T X Q E r) (hT : ∀ v s' x, T' v s' x -> T v s' x) (hX : ∀ e s' x, X' e s' x -> X e s' x) : Dn T' X' Q E r := by
 cases r with
 | stuck => exact D
 | exc x => exact fun e s' h => D e s' (hX e s' x h)
 | ok x => exact fun v s' t => D v s' (hT v s' x t)
noncomputable def Takes (p : PyData -> Rs γ) (c : γ -> PyData) : Prop := ∀ x, (∃ i, x = c i /\ p x = .ok i) \/ p x = .stuck
theorem dn_of {p : PyData -> Rs γ} {c : γ -> PyData} (hp : Takes p c) {x : PyData} {g : γ -> Rs α} (D : Dn T X Q E ((p x).bind g)) : ∃ i, x = c i /\ Dn T X Q E (g i) := by
 rcases hp x with ⟨i, h1, h2⟩ | h
 ·rw [h2] at D; exact ⟨i, h1, D⟩
 ·rw [h] at D; exact D.elim
theorem dn_of2 {p : PyData -> Rs γ} {c : γ -> PyData} (hp : Takes p c) {x : PyData} {k : γ -> Rs δ} {g : δ -> Rs α} (D : Dn T X Q E (((p x).bind k).bind g)) : ∃ i, x = c i /\ Dn T X Q E ((k i).bind g) := by
 rcases hp x with ⟨i, h1, h2⟩ | h
 ·rw [h2] at D; exact ⟨i, h1, D⟩
 ·rw [h] at D; exact D.elim
theorem int_takes : Takes intD .int := fun x => by cases x <;> first | exact .inr rfl | exact .inl ⟨_, rfl, rfl⟩
theorem str_takes : Takes strD .str := fun x => by cases x <;> first | exact .inr rfl | exact .inl ⟨_, rfl, rfl⟩
theorem tup_takes : Takes tupD .tuple := fun x => by cases x <;> first | exact .inr rfl | exact .inl ⟨_, rfl, rfl⟩
theorem list_takes : Takes listD .list := fun x => by cases x <;> first | exact .inr rfl | exact .inl ⟨_, rfl, rfl⟩
theorem dn_if {c : Prop} [Decidable c] {r : Rs α} (D : Dn T X Q E (if c then r else .stuck)) : c /\ Dn T X Q E r := by
 by_cases h : c
 ·rw [if_pos h] at D; exact ⟨h, D⟩
 ·rw [if_neg h] at D; exact D.elim
theorem dn_if2 {c : Prop} [Decidable c] {r : Rs γ} {g : γ -> Rs α} (D : Dn T X Q E ((if c then r else .stuck).bind g)) : c /\ Dn T X Q E (r.bind g) := by
 by_cases h : c
 ·rw [if_pos h] at D; exact ⟨h, D⟩
 ·rw [if_neg h] at D; exact D.elim
theorem dn_some {o : Option γ} {k : γ -> Rs α} (D : Dn T X Q E (Rs.opt o k)) : ∃ x, o = some x /\ Dn T X Q E (k x) := by
 cases o with
 | none => exact D.elim
 | some x => exact ⟨x, rfl, D⟩
theorem dn_some2 {o : Option γ} {k : γ -> Rs δ} {g : δ -> Rs α} (D : Dn T X Q E ((Rs.opt o k).bind g)) : ∃ x, o = some x /\ Dn T X Q E ((k x).bind g) := by
 cases o with
 | none => exact D.elim
 | some x => exact ⟨x, rfl, D⟩
theorem bool_takes (x : V) : (∃ b, x = .d (.bool b)) \/ boolOf x = .stuck := by
 cases x with
 | exc x => exact .inr rfl
 | d x => cases x <;> first | exact .inr rfl | exact .inl ⟨_, rfl⟩
theorem dn_test {r : Rs V} {g : Bool -> Rs α} {T' : δ -> Shared -> V -> Prop} {K : δ -> Shared -> Prop} (D : Dn T X Q E (r.bind fun x => (boolOf x).bind g)) (hX : ∀ e s' x, X' e s' x -> X e s' x)
  (k : ∀ v s₁ b, T' v s₁ (.d (.bool b)) -> Dn T X Q E (g b) -> K v s₁) : Dn T' X' K E r := dn_bind D hX fun v s₁ x t D => by
 rcases bool_takes x with ⟨b, rfl⟩ | h
 ·exact k v s₁ b t D
 ·rw [h] at D; exact D.elim
theorem dn_testB {r : Rs V} {g : Bool -> Rs α} {T' : δ -> Shared -> Bool -> Prop} {K : δ -> Shared -> Prop} (D : Dn T X Q E (r.bind fun x => (boolOf x).bind g)) (hX : ∀ e s' x, X' e s' x -> X e s' x)
  (k : ∀ v s₁ b, T' v s₁ b -> Dn T X Q E (g b) -> K v s₁) : Dn T' X' K E (r.bind boolOf) := by
 cases r with
 | stuck => exact D
 | exc x => exact fun e s' h => D e s' (hX e s' x h)
 | ok x =>
  rcases bool_takes x with ⟨b, rfl⟩ | h
  ·exact fun v s' t => k v s' b t D
  ·show Dn T' X' K E (boolOf x)
   have D' : Dn T X Q E ((boolOf x).bind g) := D
   rw [h] at D'; exact D'.elim
end
noncomputable def XDict (h : Heap) (dd : Addr) (x : Xc) : Prop :=
 ∃ mA, h.Ns1 dd mA /\ (∃ t, mA "code" = some (.int 1 t)) /\ (∃ t, mA "value" = some (.str x.text t)) /\
  ∃ v, mA "errorcode" = some v /\ Reads h v (.tuple (x.code.map .str)) []
noncomputable def NewX (C : Addr) (h h' : Heap) (e : Addr) (x : Xc) : Prop :=
 h.StaysIn h' /\ h.get? e = none /\ ∃ oe vs dd a0, h'.get? e = some oe /\ oe.cls = .ref C /\ oe.dict = some dd /\ h.get? dd = none /\ dd ≠ e /\ XDict h' dd x /\ oe.data = .fields vs /\ vs[0]? = some a0 /\ vs[1]? = some .none /\ vs.toList = [a0, .none, .none, .none, .bool false, .none]
noncomputable def TrX (C : Addr) (h base : Heap) (e : Addr) (x : Xc) : Prop :=
 ∃ oe vs T oT ts dd, h.get? e = some oe /\ oe.cls = .ref C /\ oe.dict = some dd /\ base.get? dd = none /\ dd ≠ e /\ XDict h dd x /\ oe.data = .fields vs /\ vs[1]? = some (.ref T) /\ base.get? T = none /\ T ≠ e /\ h.get? T = some oT /\ oT.data = .fields ts /\ ts[3]? = some .none
noncomputable def FlyX (C : Addr) (base : Heap) (l : List Env) (e : Addr) (x : Xc) (h : Heap) : Prop :=
 base.StaysIn h /\ base.get? e = none /\ h.FunFrames base l /\ TrX C h base e x
noncomputable def framesOf (l : List Env) : List Addr := l.filterMap (·.frame)
noncomputable def ExG (C : Addr) (l : List Env) (s : Shared) (e : Value) (s' : Shared) (x : Xc) : Prop :=
 ∃ a h' tk, e = .ref a /\ s' = { s with heap := h', toks := tk } /\ FlyX C (hideAll s.heap (framesOf l)) l a x h' /\ s.heap.UpToSlots h'
noncomputable def RpRes (C : Addr) (s s' : Shared) (as : List Addr) (v : Value) : V -> Prop
 | .d x => ∃ bs, Reads s'.heap v x bs /\ ∀ b ∈ bs, s.heap.get? b = none \/ b ∈ as
 | .exc x => ∃ e, v = .ref e /\ NewX C s.heap s'.heap e x
structure Wd where
 w : World
 hR : Heap
 mg : Str -> Option Value
 mb : Str -> Option Value
 C : Addr
noncomputable def Ctr (W : Wd) (d : Nat) (i : Nat) (args : List PyData) (r : Rs V) : Prop :=
 ∀ (A : Around) (outer : List Env) (s : Shared) (fa : Addr) (vs : List Value) (as : List Addr) (Q E : Value -> Shared -> Prop),
  A.handled = none -> A.depth + d + 10 < recursionLimit -> A.units + 8 * d + 100 < cLine -> A.frames = some outer -> W.hR.StaysIn s.heap -> s.heap.FunFrames W.hR outer ->
  W.mg (nameAt i) = some (.ref fa) -> ReadsAll s.heap vs args as ->
  Dn (fun v s' x => Grow s s' /\ RpRes W.C s s' as v x) (ExG W.C outer s) Q E r ->
  wpAny (Mw W.w) A (call (.ref fa) vs) Q E s
structure Fm where
 W : Wd
 h₀ : Heap
 A₀ : Around
 outer : List Env
 qual : Str
 scope : Scope
 L : Addr
 fa : Addr
 cd : Value
 cl : List (Str × Addr)
 cfg : Cf
 AA : List Addr
 cf : Cfn
 K : Nat
 d : Nat
noncomputable abbrev Fm.env (f : Fm) : Env := envX f.qual f.scope f.L f.fa f.cd f.cl
noncomputable abbrev Fm.A (f : Fm) : Around := f.A₀.deeper f.env
section
variable {M : Model} {A : Around} {E : Value -> Shared -> Prop} {s : Shared} {name : Str} {scope : Scope} {L a : Addr} {cd : Value} {cl : List (Str × Addr)} {h₀ : Heap} {m mg mb : Str -> Option Value}
theorem ldX {x : Str} {pos : Pos} {v : Value} {Q : Value -> Shared -> Prop} (F : Fr h₀ L s.heap m) (hv : m x = some v) (h : Q v s)
  (hk : scope.kind = .function) (hl : (envX name scope L a cd cl).kindOf x = some .local) (hd : (x == ("__debug__" : Str)) = false) :
  wpAny M A (eval (.Name x pos) (envX name scope L a cd cl)) Q E s := wpAny_Name (wpAny_loadName_local hk hl F.ns hv h) hd
theorem ldnX {x : Str} {v : Value} {Q : Value -> Shared -> Prop} (F : Fr h₀ L s.heap m) (hv : m x = some v) (h : Q v s)
  (hk : scope.kind = .function) (hl : (envX name scope L a cd cl).kindOf x = some .local) :
  wpAny M A (loadName (envX name scope L a cd cl) x) Q E s := wpAny_loadName_local hk hl F.ns hv h
theorem ldgX {x : Str} {pos : Pos} {v : Value} {Q : Value -> Shared -> Prop} (F : Fr h₀ L s.heap m) (hg : h₀.Ns mainGlobals mg) (hb : mg x = some v) (h : Q v s)
  (hk : scope.kind = .function) (hx : (envX name scope L a cd cl).kindOf x = some .globalImplicit) (hd : (x == ("__debug__" : Str)) = false) :
  wpAny M A (eval (.Name x pos) (envX name scope L a cd cl)) Q E s :=
 Calls.Name_function_global hk hx (Calls.loadGlobal_global (env := envX name scope L a cd cl) (hg.keeps F.keep) hb h) hd
theorem ldbX {x : Str} {pos : Pos} {v : Value} {Q : Value -> Shared -> Prop} (F : Fr h₀ L s.heap m) (hg : h₀.Ns mainGlobals mg) (hmiss : mg x = none) (hb : h₀.Ns builtinsNs mb) (hv : mb x = some v) (h : Q v s)
  (hk : scope.kind = .function) (hx : (envX name scope L a cd cl).kindOf x = some .globalImplicit) (hd : (x == ("__debug__" : Str)) = false) :
  wpAny M A (eval (.Name x pos) (envX name scope L a cd cl)) Q E s :=
 Calls.Name_function_global hk hx (Calls.loadGlobal_builtin (env := envX name scope L a cd cl) (hg.keeps F.keep) hmiss (hb.keeps F.keep) hv h) hd
theorem pushX {base h : Heap} {outer : List Env} (K : Below A base outer h₀) (F : Fr h₀ L h m) (hk : scope.kind = .function) : Below (A.deeper (envX name scope L a cd cl)) base (envX name scope L a cd cl :: outer) h := by
 have hnew : base.get? L = none := by
  cases hq : base.get? L with
  | none => rfl
  | some o => exact absurd (Nat.lt_of_lt_of_le (Heap.lt_size (K.stays L o hq)) F.above) (Nat.lt_irrefl _)
 refine ⟨Around.frames_deeper K.stack, fun b o e => F.keep b o (K.stays b o e), ?_⟩
 exact .cons (by show scope.kind ≠ .module; rw [hk]; decide) rfl F.ns hnew (K.frames.of_keeps fun b o e _ => ⟨o, F.keep b o e, rfl⟩)
end
noncomputable def GrowF (l : List Env) (s s' : Shared) : Prop :=
 ∃ h' tk, s' = { s with heap := h', toks := tk } /\ (∀ b o, b ∉ framesOf l -> s.heap.get? b = some o -> h'.get? b = some o) /\ s.heap.UpToSlots h'
noncomputable def HCtr (W : Wd) (d : Nat) (i : Nat) (x : PyData) (r : Rs V) : Prop :=
 ∀ (A : Around) (outer : List Env) (s : Shared) (fa fw : Addr) (v : Value) (as : List Addr) (Q E : Value -> Shared -> Prop),
  A.handled = none -> A.depth + d + 11 < recursionLimit -> A.units + 8 * d + 108 < cLine -> A.frames = some outer -> W.hR.StaysIn s.heap -> s.heap.FunFrames W.hR outer ->
  W.mg "_law_heard" = some (.ref fa) -> W.mg (nameAt i) = some (.ref fw) -> Reads s.heap v x as ->
  Dn (fun w s' y => GrowF outer s s' /\ RpRes W.C s s' as w y) (fun _ _ _ => False) Q E r ->
  wpAny (Mw W.w) A (call (.ref fa) [.ref fw, v]) Q E s
structure WF (W : Wd) : Prop where
 g : W.hR.Ns mainGlobals W.mg
 b : W.hR.Ns builtinsNs W.mb
 nolimit : W.hR.NoLimit
 len : W.mg "len" = none /\ W.mb "len" = some (.builtin "len")
 ord : W.mg "ord" = none /\ W.mb "ord" = some (.builtin "ord")
 tuple : W.mg "tuple" = none /\ W.mb "tuple" = some (.type "tuple")
 range : W.mg "range" = none /\ W.mb "range" = some (.type "range")
structure Fm.Ok (f : Fm) : Prop where
 wf : WF f.W
 below : Below f.A₀ f.W.hR f.outer f.h₀
 handled : f.A₀.handled = none
 depth : f.A₀.depth + 1 + f.d + 10 < recursionLimit
 units : f.A₀.units + 3 + 8 * f.d + 100 < cLine
 kind : f.scope.kind = .function
 loc : ∀ n ∈ f.cfg.names, f.scope.names.lookup n = some .local /\ (n == ("__debug__" : Str)) = false
 glb : ∀ n ∈ f.cfg.globs, f.scope.names.lookup n = some .globalImplicit /\ (n == ("__debug__" : Str)) = false
 nodup : f.cfg.names.Nodup
 own : ∀ n, f.cfg.own = some n -> n ∈ f.cfg.names
 fns : f.cfg.fns = fnNames
 callee : ∀ x ∈ f.cfg.globs, ∀ i, f.cfg.fns.findIdx? (· == x) = some i -> ∃ a o fd, f.W.mg x = some (.ref a) /\ f.W.hR.get? a = some o /\ o.data = .func fd
 calls : ∀ i args, Ctr f.W f.d i args (f.cf i args)
 heard : f.cfg.hd = true -> f.outer = [] /\ f.A₀.depth + 1 + f.d + 11 < recursionLimit /\ f.A₀.units + 3 + 8 * f.d + 108 < cLine /\ ∀ i x, HCtr f.W f.d i x (heardR (f.cf i [x]))
noncomputable def GoodA (f : Fm) (oa : Option Addr) (b : Addr) : Prop := (f.h₀.get? b = none \/ b ∈ f.AA) /\ oa ≠ some b /\ b ≠ f.L
noncomputable def Rp (f : Fm) (oa : Option Addr) (h : Heap) (v : Value) (x : PyData) : Prop :=
 ∃ as, Reads h v x as /\ ∀ b ∈ as, GoodA f oa b
noncomputable def OwnOk (f : Fm) (oa : Option Addr) (h : Heap) (m : Str -> Option Value) : Option (List PyData) -> Prop
 | none => oa = none
 | some xs => ∃ a its k as n, oa = some a /\ f.cfg.own = some n /\ m n = some (.ref a) /\ h.get? a = some ({ cls := .type "list", data := .seq its k } : Obj) /\ f.h₀.get? a = none /\ a ≠ f.L /\
   ReadsAll h its.toList xs as /\ ∀ b ∈ as, GoodA f oa b
noncomputable def St (f : Fm) (oa : Option Addr) (σ : Sg) (h : Heap) : Prop :=
 ∃ m, Fr f.h₀ f.L h m /\ (∀ (i : Nat) (x : PyData), σ.env[i]? = some (some x) -> ∃ n v, f.cfg.names[i]? = some n /\ f.cfg.own ≠ some n /\ m n = some v /\ Rp f oa h v x) /\ OwnOk f oa h m σ.own
noncomputable def RpV (f : Fm) (oa : Option Addr) (s' : Shared) (v : Value) : V -> Prop
 | .d x => Rp f oa s'.heap v x
 | .exc x => ∃ e, v = .ref e /\ NewX f.W.C f.h₀ s'.heap e x
theorem Rp.stays {f : Fm} {oa : Option Addr} {h h' : Heap} {v : Value} {x : PyData} (r : Rp f oa h v x) (k : h.StaysIn h') : Rp f oa h' v x :=
 let ⟨as, ra, c⟩ := r; ⟨as, Reads.keeps k ra, c⟩
theorem Fr.stays' {h₀ h h' : Heap} {L : Addr} {m : Str -> Option Value} (F : Fr h₀ L h m) (k : h.StaysIn h') : Fr h₀ L h' m :=
 ⟨F.ns.keeps k, fun b o e => k b o (F.keep b o e), F.above⟩
theorem St.stays {f : Fm} {oa : Option Addr} {σ : Sg} {h h' : Heap} (S : St f oa σ h) (k : h.StaysIn h') : St f oa σ h' := by
 obtain ⟨m, F, e, o⟩ := S
 refine ⟨m, Fr.stays' F k, fun i x q => ?_, ?_⟩
 ·obtain ⟨n, v, a, b, c, d⟩ := e i x q
  exact ⟨n, v, a, b, c, d.stays k⟩
 ·revert o
  cases σ.own with
  | none => exact id
  | some xs =>
   rintro ⟨a, its, kk, as, n, h1, h2, h3, h4, h5, h6, h7, h8⟩
   exact ⟨a, its, kk, as, n, h1, h2, h3, k _ _ h4, h5, h6, ReadsAll.keeps k h7, h8⟩
theorem St.grow {f : Fm} {oa : Option Addr} {σ : Sg} {s s' : Shared} (S : St f oa σ s.heap) (g : Grow s s') : St f oa σ s'.heap := S.stays g.stays
theorem St.keep {f : Fm} {oa : Option Addr} {σ : Sg} {h : Heap} (S : St f oa σ h) : f.h₀.StaysIn h := by
 obtain ⟨m, F, _⟩ := S
 exact F.keep
theorem NewX.stays {C : Addr} {h h' h'' : Heap} {e : Addr} {x : Xc} (N : NewX C h h' e x) (k : h'.StaysIn h'') : NewX C h h'' e x := by
 obtain ⟨a, b, oe, vs, dd, a0, c1, c2, c3, c4, c5, ⟨mA, d1, d2, d3, v, d4, d5⟩, c7, c8, c9, c10⟩ := N
 exact ⟨fun b o q => k b o (a b o q), b, oe, vs, dd, a0, k _ _ c1, c2, c3, c4, c5, ⟨mA, d1.at fun o e => k _ _ e, d2, d3, v, d4, Reads.keeps k d5⟩, c7, c8, c9, c10⟩
theorem RpV.grow {f : Fm} {oa : Option Addr} {s s' : Shared} {v : Value} {x : V} (r : RpV f oa s v x) (g : Grow s s') : RpV f oa s' v x := by
 cases x with
 | d x => exact Rp.stays r g.stays
 | exc x => obtain ⟨e, a, n⟩ := r; exact ⟨e, a, n.stays g.stays⟩
theorem Rp.nil {f : Fm} {oa : Option Addr} {h : Heap} {v : Value} {x : PyData} (r : Reads h v x []) : Rp f oa h v x := ⟨[], r, fun _ hb => nomatch hb⟩
theorem rd_int {h : Heap} {v : Value} {i : Int} {as : List Addr} (r : Reads h v (.int i) as) : ∃ t, v = .int i t := by cases r; exact ⟨_, rfl⟩
theorem rd_str {h : Heap} {v : Value} {i : Str} {as : List Addr} (r : Reads h v (.str i) as) : ∃ t, v = .str i t := by cases r; exact ⟨_, rfl⟩
theorem rd_bool {h : Heap} {v : Value} {b : Bool} {as : List Addr} (r : Reads h v (.bool b) as) : v = .bool b := by cases r; rfl
theorem rd_list {h : Heap} {v : Value} {l : List PyData} {as : List Addr} (r : Reads h v (.list l) as) : ∃ a vs bs, v = .ref a /\ h.IsList a vs /\ ReadsAll h vs.toList l bs /\ as = a :: bs := by
 cases r with | list h1 h2 h3 h4 => exact ⟨_, _, _, rfl, ⟨_, h1, h2, _, h3⟩, h4, rfl⟩
theorem rd_tup {h : Heap} {v : Value} {l : List PyData} {as : List Addr} (r : Reads h v (.tuple l) as) : ∃ a vs, v = .ref a /\ h.IsTuple a vs /\ ReadsAll h vs.toList l as := by
 cases r with | tuple h1 h2 h3 h4 => exact ⟨_, _, rfl, ⟨_, h1, h2, _, h3⟩, h4⟩
theorem Fm.Ok.A_handled {f : Fm} (O : f.Ok) : f.A.handled = none := O.handled
theorem Fm.Ok.A_units {f : Fm} (O : f.Ok) : f.A.units + 64 < cLine := by
 have := O.units
 show f.A₀.units + 3 + 64 < cLine
 lia
theorem Fm.Ok.frames {f : Fm} (O : f.Ok) : f.A.frames = some (f.env :: f.outer) := Around.frames_deeper O.below.stack
theorem Fm.Ok.hR {f : Fm} {oa : Option Addr} {σ : Sg} {h : Heap} (O : f.Ok) (S : St f oa σ h) : f.W.hR.StaysIn h := fun b o e => S.keep b o (O.below.stays b o e)
theorem Fm.Ok.funFrames {f : Fm} {oa : Option Addr} {σ : Sg} {h : Heap} (O : f.Ok) (S : St f oa σ h) : h.FunFrames f.W.hR (f.env :: f.outer) := by
 obtain ⟨m, F, _⟩ := S
 exact (pushX (name := f.qual) (a := f.fa) (cd := f.cd) (cl := f.cl) O.below F O.kind).frames
noncomputable def o2To : O2 -> Operator
 | .add => .Add | .sub => .Sub | .mul => .Mult | .fdiv => .FloorDiv | .fmod => .Mod | .pow => .Pow
theorem o2To_of {o : Operator} {p : O2} (h : o2Of o = some p) : o = o2To p := by
 cases o <;> cases h <;> rfl
noncomputable def cpTo : Cp -> CmpOp
 | .eq => .Eq | .ne => .NotEq | .lt => .Lt | .le => .LtE | .gt => .Gt | .ge => .GtE | .in_ => .In | .notIn => .NotIn
theorem cpTo_of {o : CmpOp} {p : Cp} (h : cpOf o = some p) : o = cpTo p := by
 cases o <;> cases h <;> rfl
theorem intBits_le {x : Int} {n : Nat} (h : x.natAbs < 2 ^ n) : Builtin.Int.intBits x <= n := by
 unfold Builtin.Int.intBits
 split
 ·exact Nat.zero_le _
 ·rename_i h0
  have h0' : x.natAbs ≠ 0 := by intro q; apply h0; simp [Int.natAbs_eq_zero.mp q]
  have := (Nat.log2_lt h0').mpr h
  lia
section
variable {w : World} {A : Around} {E E' : Value -> Shared -> Prop} {s : Shared} {α β : Type} {T : β -> Shared -> α -> Prop} {X : Value -> Shared -> Xc -> Prop} {Q : β -> Shared -> Prop}
theorem op2_takes (o : O2) (x y : PyData) : (∃ a b, x = .int a /\ y = .int b /\ op2 o x y = op2I o a b) \/ (∃ a b, x = .str a /\ y = .str b /\ op2 o x y = op2S o a b) \/ op2 o x y = .stuck := by
 cases x with
 | int a =>
  rcases int_takes y with ⟨b, rfl, h⟩ | h
  ·exact .inl ⟨a, b, rfl, rfl, rfl⟩
  ·refine .inr (.inr ?_)
   show (intD y).bind _ = _
   rw [h]; rfl
 | str a =>
  rcases str_takes y with ⟨b, rfl, h⟩ | h
  ·exact .inr (.inl ⟨a, b, rfl, rfl, rfl⟩)
  ·refine .inr (.inr ?_)
   show (strD y).bind _ = _
   rw [h]; rfl
 | _ => exact .inr (.inr rfl)
theorem snd_opI {o : O2} {a b : Int} {ta tb : Tok} {g : PyData -> Rs α} {K : Value -> Shared -> Prop} (hA : A.handled = none) (D : Dn T X Q E ((op2I o a b).bind g))
  (k : ∀ v s' r, Grow s s' -> Reads s'.heap v r [] -> Dn T X Q E (g r) -> K v s') : wpAny (Mw w) A (binaryOp (o2To o) (.int a ta) (.int b tb)) K E' s := by
 have fin : ∀ {i : Int} {t : Tok}, Dn T X Q E (g (.int i)) -> K (.int i t) { s with toks := s.toks + 1 } -> K (.int i t) { s with toks := s.toks + 1 } := fun _ h => h
 cases o with
 | add => exact add_int (k _ _ _ (Grow.tok _ _) (.int _ _) D)
 | sub => exact sub_int' (k _ _ _ (Grow.tok _ _) (.int _ _) D)
 | mul =>
  by_cases hb : b.natAbs < 256
  ·have D : Dn T X Q E (((if b.natAbs < 256 then .ok (.int (a * b)) else if a.natAbs < 256 then .ok (.int (a * b)) else .stuck : Rs PyData)).bind g) := D
   rw [if_pos hb] at D
   exact mul_int (k _ _ _ (Grow.tok _ _) (.int _ _) D) (IntMulOk.of_right (Nat.le_trans (intBits_le (n := 8) hb) (by decide)))
  ·have D : Dn T X Q E (((if b.natAbs < 256 then .ok (.int (a * b)) else if a.natAbs < 256 then .ok (.int (a * b)) else .stuck : Rs PyData)).bind g) := D
   rw [if_neg hb] at D
   replace D := dn_if2 D
   obtain ⟨ha, D⟩ := D
   exact mul_int (k _ _ _ (Grow.tok _ _) (.int _ _) D) (IntMulOk.of_left (Nat.le_trans (intBits_le (n := 8) ha) (by decide)))
 | fdiv =>
  replace D := dn_if2 D
  obtain ⟨hb, D⟩ := D
  refine floordiv_int_or hA (fun q => absurd q (Int.ne_of_gt hb.1)) (fun _ => k _ _ _ (Grow.tok _ _) (.int _ _) D) (fun _ => .inl ?_)
  refine PyProof.noPylong_of_log2 ?_
  have h0 : b.natAbs ≠ 0 := Int.natAbs_ne_zero.mpr (Int.ne_of_gt hb.1)
  have := (Nat.log2_lt h0).mpr (show b.natAbs < 2 ^ 62 from Int.ofNat_lt.mp (by rw [Int.natAbs_of_nonneg (Int.le_of_lt hb.1)]; exact hb.2))
  lia
 | fmod =>
  replace D := dn_if2 D
  obtain ⟨hb, D⟩ := D
  exact mod_int' (Int.ne_of_gt hb.1) (k _ _ _ (Grow.tok _ _) (.int _ _) D)
 | pow =>
  replace D := dn_if2 D
  obtain ⟨⟨rfl, h1, h2⟩, D⟩ := D
  refine pow_int h1 ?_ (k _ _ _ (Grow.tok _ _) (.int _ _) D)
  have : Builtin.Int.intBits 8 = 4 := by decide +kernel
  rw [this]
  lia
theorem opS_add {o : O2} {a b : Str} {g : PyData -> Rs α} (D : Dn T X Q E ((op2S o a b).bind g)) : o = .add /\ a.cps.size + b.cps.size <= big /\ Dn T X Q E (g (.str ⟨a.cps ++ b.cps⟩)) := by
 cases o with
 | add => exact ⟨rfl, dn_if2 D⟩
 | _ => exact D.elim
theorem snd_op2 {o : O2} {x y : PyData} {va vb : Value} {as bs : List Addr} {g : PyData -> Rs α} {K : Value -> Shared -> Prop} (hA : A.handled = none) (D : Dn T X Q E ((op2 o x y).bind g))
  (ra : Reads s.heap va x as) (rb : Reads s.heap vb y bs) (k : ∀ v s' r, Grow s s' -> Reads s'.heap v r [] -> Dn T X Q E (g r) -> K v s') : wpAny (Mw w) A (binaryOp (o2To o) va vb) K E' s := by
 rcases op2_takes o x y with ⟨a, b, rfl, rfl, h⟩ | ⟨a, b, rfl, rfl, h⟩ | h
 ·obtain ⟨ta, rfl⟩ := rd_int ra
  obtain ⟨tb, rfl⟩ := rd_int rb
  exact snd_opI hA D k
 ·obtain ⟨ta, rfl⟩ := rd_str ra
  obtain ⟨tb, rfl⟩ := rd_str rb
  replace D := opS_add D
  obtain ⟨rfl, hs, D⟩ := D
  exact add_str (fun t' tk => k _ _ _ (Grow.tok _ _) (.str _ _) D) (Nat.le_trans hs (by decide))
 ·rw [h] at D; exact D.elim
theorem snd_iop2 {o : O2} {x y : PyData} {va vb : Value} {as bs : List Addr} {g : PyData -> Rs α} {K : Value -> Shared -> Prop} (D : Dn T X Q E ((op2 o x y).bind g))
  (ra : Reads s.heap va x as) (rb : Reads s.heap vb y bs) (k : ∀ v s' r, Grow s s' -> Reads s'.heap v r [] -> Dn T X Q E (g r) -> K v s') (ho : o = .add \/ o = .sub) : wpAny (Mw w) A (inplaceOp (o2To o) va vb) K E' s := by
 rcases op2_takes o x y with ⟨a, b, rfl, rfl, h⟩ | ⟨a, b, rfl, rfl, h⟩ | h
 ·obtain ⟨ta, rfl⟩ := rd_int ra
  obtain ⟨tb, rfl⟩ := rd_int rb
  rcases ho with rfl | rfl
  ·exact iadd_int (k _ _ _ (Grow.tok _ _) (.int _ _) D)
  ·exact isub_int (k _ _ _ (Grow.tok _ _) (.int _ _) D)
 ·obtain ⟨ta, rfl⟩ := rd_str ra
  obtain ⟨tb, rfl⟩ := rd_str rb
  replace D := opS_add D
  obtain ⟨rfl, hs, D⟩ := D
  exact iadd_str (fun t' tk => k _ _ _ (Grow.tok _ _) (.str _ _) D) (Nat.le_trans hs (by decide))
 ·rw [h] at D; exact D.elim
theorem strs_map : ∀ {l : List PyData} {ls : List Str}, strsOf l = some ls -> l = ls.map .str
 | [], ls, e => by cases e; rfl
 | d :: l, ls, e => by
  rcases str_takes d with ⟨x, rfl, -⟩ | h
  ·have e : (strsOf l).map (x :: ·) = some ls := e
   obtain ⟨ls', h', rfl⟩ := Option.map_eq_some_iff.mp e
   rw [strs_map h']; rfl
  ·cases d <;> cases h <;> cases e
theorem strs_items {h : Heap} : ∀ {vs : List Value} {ls : List Str} {as : List Addr}, ReadsAll h vs (ls.map .str) as -> ∃ f : Value -> Str, (∀ v ∈ vs, ∃ t, v = .str (f v) t) /\ vs.map f = ls := by
 intro vs ls as r
 refine ⟨fun v => match v with | .str x _ => x | _ => Str.empty, ?_⟩
 induction ls generalizing vs as with
 | nil => cases r; exact ⟨fun _ h => (nomatch h), rfl⟩
 | cons x ls ih =>
  cases r with
  | cons r rs =>
  obtain ⟨t, rfl⟩ := rd_str r
  obtain ⟨h1, h2⟩ := ih rs
  refine ⟨fun u hu => ?_, by rw [List.map_cons, h2]⟩
  rcases List.mem_cons.mp hu with rfl | hu
  ·exact ⟨t, rfl⟩
  ·exact h1 u hu
theorem any_contains (ls : List Str) (a : Str) : ls.any (fun y => y == a) = ls.contains a := by
 induction ls with
 | nil => rfl
 | cons x l ih => rw [List.any_cons, List.contains_cons, ih, Bool.beq_comm]
theorem Str_ext {a b : Str} (h : a.cps.toList = b.cps.toList) : a = b := by
 cases a with | mk x =>
 cases b with | mk y =>
 simp only at h
 rw [Array.toList_inj.mp h]
theorem one_some {α : Type} {l : List α} {a : α} (h : one l = some a) : l = [a] := by
 cases l with
 | nil => cases h
 | cons b l =>
  cases l with
  | nil => cases h; rfl
  | cons c l => cases h
theorem two_some {α : Type} {l : List α} {a b : α} (h : two l = some (a, b)) : l = [a, b] := by
 cases l with
 | nil => cases h
 | cons x l =>
  obtain ⟨y, h1, h2⟩ := Option.map_eq_some_iff.mp h
  cases h2
  rw [one_some h1]
theorem one_of {y : Str} {c : Nat} (h : oneOf y = some c) : y = ⟨#[c]⟩ := Str_ext (one_some h)
theorem in_takes (x y : PyData) : (∃ a l ls, x = .str a /\ y = .tuple l /\ strsOf l = some ls /\ inD x y = .ok (ls.contains a)) \/ (∃ c b, x = .str ⟨#[c]⟩ /\ y = .str b /\ inD x y = .ok (b.cps.toList.contains c)) \/ inD x y = .stuck := by
 rcases str_takes x with ⟨a, rfl, -⟩ | h
 ·rcases tup_takes y with ⟨l, rfl, -⟩ | ht
  ·cases h : strsOf l with
   | none =>
    refine .inr (.inr ?_)
    show Rs.opt (strsOf l) _ = _
    rw [h]; rfl
   | some ls =>
    refine .inl ⟨a, l, ls, rfl, rfl, h, ?_⟩
    show Rs.opt (strsOf l) _ = _
    rw [h]; rfl
  ·rcases str_takes y with ⟨b, rfl, -⟩ | hs
   ·cases h : oneOf a with
    | none =>
     refine .inr (.inr ?_)
     show Rs.opt (oneOf a) _ = _
     rw [h]; rfl
    | some c =>
     rw [one_of h]
     exact .inr (.inl ⟨c, b, rfl, rfl, rfl⟩)
   ·cases y <;> first | exact .inr (.inr rfl) | (cases ht; done) | (cases hs; done)
 ·refine .inr (.inr ?_)
  show (strD x).bind _ = _
  rw [h]; rfl
theorem snd_in {x y : PyData} {va vb : Value} {as bs : List Addr} {g : Bool -> Rs α} (D : Dn T X Q E ((inD x y).bind g)) (ra : Reads s.heap va x as) (rb : Reads s.heap vb y bs) :
  ∃ r, Dn T X Q E (g r) /\ (∀ K : Value -> Shared -> Prop, K (.bool r) s -> wpAny (Mw w) A (compareOp .In va vb) K E' s) /\ ∀ K : Value -> Shared -> Prop, K (.bool !r) s -> wpAny (Mw w) A (compareOp .NotIn va vb) K E' s := by
 rcases in_takes x y with ⟨a, l, ls, rfl, rfl, hl, h⟩ | ⟨c, b, rfl, rfl, h⟩ | h
 ·rw [h] at D
  obtain ⟨ta, rfl⟩ := rd_str ra
  obtain ⟨t, vs, rfl, tup, hr⟩ := rd_tup rb
  rw [strs_map hl] at hr
  obtain ⟨f, f1, f2⟩ := strs_items hr
  have he : ∀ y, y ∈ vs -> SeqAt.EqAt A.in1 s y (.str a ta) ((fun v => f v == a) y) := fun y hy => by
   obtain ⟨u, q⟩ := f1 y (Array.mem_toList_iff.mpr hy)
   have : SeqAt.EqAt A.in1 s (.str (f y) u) (.str a ta) (f y == a) := SeqAt.EqAt.str_str _ _ _ _
   rw [<- q] at this
   exact this
  have ev : vs.any (fun v => f v == a) = ls.contains a := by
   rw [<- any_contains, <- f2, List.any_map, <- Array.any_toList]
   rfl
  exact ⟨_, D, fun K q => SeqAt.in_tupleAt _ tup he (by rw [ev]; exact q), fun K q => SeqAt.notIn_tupleAt _ tup he (by rw [ev]; exact q)⟩
 ·rw [h] at D
  obtain ⟨ta, rfl⟩ := rd_str ra
  obtain ⟨tb, rfl⟩ := rd_str rb
  have h1 := StrLaws.found_one b c
  have h2 : (b.cps.toList.contains c) = decide (c ∈ b.cps.toList) := by simp
  exact ⟨_, D, fun K q => in_str (by rw [h1, <- h2]; exact q), fun K q => notIn_str (by rw [h1, <- h2]; exact q)⟩
 ·rw [h] at D; exact D.elim
theorem snd_cpI {o : Cp} {a b : Int} {ta tb : Tok} {g : Bool -> Rs α} {K : Value -> Shared -> Prop} (D : Dn T X Q E ((cpI o a b).bind g)) (k : ∀ r, Dn T X Q E (g r) -> K (.bool r) s) : wpAny (Mw w) A (compareOp (cpTo o) (.int a ta) (.int b tb)) K E' s := by
 cases o with
 | eq => exact eq_int (k _ D)
 | ne => exact ne_int (k _ D)
 | lt => exact lt_int (k _ D)
 | le => exact le_int (k _ D)
 | gt => exact gt_int (k _ D)
 | ge => exact ge_int (k _ D)
 | _ => exact D.elim
theorem snd_cpS {o : Cp} {a b : Str} {ta tb : Tok} {g : Bool -> Rs α} {K : Value -> Shared -> Prop} (D : Dn T X Q E ((cpS o a b).bind g)) (k : ∀ r, Dn T X Q E (g r) -> K (.bool r) s) : wpAny (Mw w) A (compareOp (cpTo o) (.str a ta) (.str b tb)) K E' s := by
 cases o with
 | eq => exact eq_str (k _ D)
 | ne => exact ne_str (k _ D)
 | _ => exact D.elim
theorem snd_cpE {o : Cp} {x y : PyData} {va vb : Value} {as bs : List Addr} {g : Bool -> Rs α} {K : Value -> Shared -> Prop} (hu : A.units + 64 < cLine) (ra : Reads s.heap va x as) (rb : Reads s.heap vb y bs) (D : Dn T X Q E ((cpE o x y).bind g)) (k : ∀ r, Dn T X Q E (g r) -> K (.bool r) s) :
  wpAny (Mw w) A (compareOp (cpTo o) va vb) K E' s := by
 cases o with
 | eq =>
  replace D := dn_if2 D
  obtain ⟨-, D⟩ := D
  replace D := dn_if2 D
  obtain ⟨hs, D⟩ := D
  obtain ⟨h1, h2⟩ := Bool.and_eq_true_iff.mp hs
  exact eq_dataH ra rb h1 h2 hu (k _ D)
 | ne =>
  replace D := dn_if2 D
  obtain ⟨-, D⟩ := D
  replace D := dn_if2 D
  obtain ⟨hs, D⟩ := D
  obtain ⟨h1, h2⟩ := Bool.and_eq_true_iff.mp hs
  exact ne_dataH ra rb h1 h2 hu (k _ D)
 | _ => exact D.elim
theorem snd_cpX {o : Cp} {x y : PyData} {va vb : Value} {as bs : List Addr} {g : Bool -> Rs α} {K : Value -> Shared -> Prop} (hu : A.units + 64 < cLine) (ra : Reads s.heap va x as) (rb : Reads s.heap vb y bs) (D : Dn T X Q E ((cpX o x y).bind g)) (k : ∀ r, Dn T X Q E (g r) -> K (.bool r) s) :
  wpAny (Mw w) A (compareOp (cpTo o) va vb) K E' s := by
 cases x with
 | int a =>
  replace D := dn_of2 int_takes D
  obtain ⟨b, rfl, D⟩ := D
  obtain ⟨ta, rfl⟩ := rd_int ra
  obtain ⟨tb, rfl⟩ := rd_int rb
  exact snd_cpI D k
 | str a =>
  replace D := dn_of2 str_takes D
  obtain ⟨b, rfl, D⟩ := D
  obtain ⟨ta, rfl⟩ := rd_str ra
  obtain ⟨tb, rfl⟩ := rd_str rb
  exact snd_cpS D k
 | _ => exact snd_cpE hu ra rb D k
theorem snd_cp {o : Cp} {x y : PyData} {va vb : Value} {as bs : List Addr} {g : Bool -> Rs α} {K : Value -> Shared -> Prop} (hu : A.units + 64 < cLine) (D : Dn T X Q E ((cpD o x y).bind g)) (ra : Reads s.heap va x as) (rb : Reads s.heap vb y bs)
  (k : ∀ r, Dn T X Q E (g r) -> K (.bool r) s) : wpAny (Mw w) A (compareOp (cpTo o) va vb) K E' s := by
 cases o with
 | in_ =>
  obtain ⟨r, D, h, -⟩ := snd_in (w := w) (A := A) (E' := E') D ra rb
  exact h _ (k _ D)
 | notIn =>
  have D : Dn T X Q E ((inD x y).bind fun r => g !r) := by
   have D : Dn T X Q E (((inD x y).bind fun r => Rs.ok !r).bind g) := D
   revert D
   cases inD x y <;> exact id
  obtain ⟨r, D, -, h⟩ := snd_in (w := w) (A := A) (E' := E') D ra rb
  exact h _ (k _ D)
 | _ => exact snd_cpX hu ra rb D k
end
end Mine
namespace Mine
open PySem PySem.W PyProof.Rows PySem.Calls PySem.Builtin PySem.Builtin.Str
theorem range_filterMap (l : List Nat) (a n : Nat) (h : a + n <= l.length) : ((List.range n).map (fun k => a + k)).filterMap (fun i => l[i]?) = (l.drop a).take n := by
 induction n with
 | zero => simp
 | succ n ih =>
  rw [List.range_succ, List.map_append, List.filterMap_append, ih (by lia)]
  have h1 : a + n < l.length := by lia
  simp only [List.map_cons, List.map_nil, List.filterMap_cons, List.filterMap_nil, List.getElem?_eq_getElem h1]
  rw [List.take_add_one]
  congr 1
  rw [List.getElem?_drop, List.getElem?_eq_getElem h1]
  rfl
theorem mm (a n : Nat) : max (0 : Int) (min (a : Int) (n : Int)) = ((min a n : Nat) : Int) := by
 rcases Nat.le_total a n with h | h
 ·rw [Nat.min_eq_left h, Int.min_eq_left (Int.ofNat_le.mpr h)]; exact Int.max_eq_right (Int.natCast_nonneg _)
 ·rw [Nat.min_eq_right h, Int.min_eq_right (Int.ofNat_le.mpr h)]; exact Int.max_eq_right (Int.natCast_nonneg _)
theorem ix_nat (a b n : Nat) : strSliceIndices (some (a : Int)) (some (b : Int)) 1 n = (List.range (min b n - min a n)).map (fun k => min a n + k) := by
 have nn : ∀ c : Nat, ¬((c : Int) < 0) := fun c => Int.not_lt.mpr (Int.natCast_nonneg c)
 have e : strSliceIndices (some (a : Int)) (some (b : Int)) 1 n = (List.range (if max (0 : Int) (min (a : Int) (n : Int)) < max (0 : Int) (min (b : Int) (n : Int)) then (max (0 : Int) (min (b : Int) (n : Int)) - max (0 : Int) (min (a : Int) (n : Int)) + 1 - 1) / 1 else 0).toNat).map fun (k : Nat) => (max (0 : Int) (min (a : Int) (n : Int)) + 1 * (k : Int)).toNat := by
  unfold strSliceIndices sliceRange
  simp only [show (1 : Int) > 0 by decide, if_true]
  rw [if_neg (nn a), if_neg (nn b)]
 rw [e, mm, mm]
 generalize min a n = p
 generalize min b n = q
 have e3 : (if (p : Int) < (q : Int) then ((q : Int) - (p : Int) + 1 - 1) / 1 else 0).toNat = q - p := by
  by_cases h : (p : Int) < (q : Int)
  ·rw [if_pos h, Int.ediv_one, Int.add_sub_cancel, Int.toNat_sub]
  ·rw [if_neg h, Nat.sub_eq_zero_of_le (Int.ofNat_le.mp (Int.not_lt.mp h))]; rfl
 rw [e3]
 exact List.map_congr_left fun k _ => by rw [Int.one_mul]; rfl
theorem cut_l (l : List Nat) (a b : Nat) : (l.drop (min a l.length)).take (min b l.length - min a l.length) = (l.drop a).take (b - a) := by
 rcases Nat.le_total a l.length with h | h
 ·rw [Nat.min_eq_left h]
  rcases Nat.le_total b l.length with k | k
  ·rw [Nat.min_eq_left k]
  ·rw [Nat.min_eq_right k, List.take_of_length_le (by rw [List.length_drop]; exact Nat.le_refl _), List.take_of_length_le (by rw [List.length_drop]; exact Nat.sub_le_sub_right k a)]
 ·rw [Nat.min_eq_right h, List.drop_length, List.drop_eq_nil_of_le h, List.take_nil, List.take_nil]
theorem cut_list (x : Str) (a b : Nat) : (cutS x a b).cps.toList = (x.cps.toList.drop a).take (b - a) := by
 unfold cutS
 rw [Array.toList_extract, List.extract_eq_take_drop]
theorem ix_cut (x : Str) (a b : Nat) : (strSliceIndices (some (a : Int)) (some (b : Int)) 1 x.length).filterMap (x.cps[·]?) = (cutS x a b).cps.toList := by
 rw [ix_nat, cut_list, <- cut_l, show (fun (i : Nat) => x.cps[i]?) = fun (i : Nat) => x.cps.toList[i]? from funext fun i => Array.getElem?_toList.symm, show x.length = x.cps.toList.length from Array.length_toList.symm]
 refine range_filterMap _ _ _ ?_
 rcases Nat.le_total (min a x.cps.toList.length) (min b x.cps.toList.length) with h | h
 ·rw [Nat.add_sub_of_le h]; exact Nat.min_le_right _ _
 ·rw [Nat.sub_eq_zero_of_le h]; exact Nat.min_le_right _ _
theorem slice_nat (x : Str) (a b : Nat) : Txt.slice x (some (a : Int)) (some (b : Int)) = cutS x a b := by
 refine Str_ext ?_
 have key := ix_cut x a b
 unfold Txt.slice
 split
 ·rename_i h
  have h := eq_of_beq h
  rw [<- key]
  rw [ix_nat, List.length_map, List.length_range] at h
  rw [key, cut_list, <- cut_l]
  have hl : x.length = x.cps.toList.length := Array.length_toList.symm
  rw [hl] at h
  have hz : min a x.cps.toList.length = 0 \/ x.cps.toList.length = 0 := by
   have := Nat.min_le_right b x.cps.toList.length
   generalize min b x.cps.toList.length = q at *
   generalize min a x.cps.toList.length = p at *
   lia
  rcases hz with z | z
  ·rw [h, z, List.drop_zero, List.take_of_length_le (Nat.le_refl _)]
  ·rw [List.eq_nil_of_length_eq_zero z, List.drop_nil, List.take_nil]
 ·exact key
theorem slice_ns {x : Str} {j : Nat} : Txt.slice x none (some (j : Int)) = cutS x 0 j := by
 have := slice_nat x 0 j
 unfold Txt.slice at this ⊢
 rw [StrLaws.sliceIdx_none_lo]
 exact this
theorem slice_sn {x : Str} {i : Nat} : Txt.slice x (some (i : Int)) none = cutS x i x.cps.size := by
 have := slice_nat x i x.length
 unfold Txt.slice at this ⊢
 rw [StrLaws.sliceIdx_none_hi, this]
 rfl
theorem occ_ff (x : Str) (c a : Nat) :
  (findFrom x c a = none /\ occurrences x ⟨#[c]⟩ a x.length 1 = []) \/ ∃ k r, findFrom x c a = some k /\ occurrences x ⟨#[c]⟩ a x.length 1 = k :: r := by
 have at_ (v : Nat) : StrLaws.At x ⟨#[c]⟩ x.length v ↔ x.cps.toList[v]? = some c := StrLaws.subAt_one x c v
 rcases StrLaws.occ_head_from x ⟨#[c]⟩ a 1 (Nat.le_refl 1) with ⟨h0, hn⟩ | ⟨k, r, h0, hlo, hk, hn⟩
 ·refine .inl ⟨?_, h0⟩
  unfold findFrom
  rw [Option.map_eq_none_iff, List.findIdx?_eq_none_iff]
  intro v hv
  obtain ⟨i, hi, e⟩ := List.getElem_of_mem hv
  refine Bool.eq_false_iff.mpr fun q => hn (a + i) (Nat.le_add_right _ _) ((at_ _).mpr ?_)
  rw [<- List.getElem?_drop, List.getElem?_eq_getElem hi, e, eq_of_beq q]
 ·refine .inr ⟨k, r, ?_, h0⟩
  obtain ⟨j, rfl⟩ : ∃ j, k = a + j := ⟨k - a, (Nat.add_sub_cancel' hlo).symm⟩
  have hk' : (x.cps.toList.drop a)[j]? = some c := by rw [List.getElem?_drop]; exact (at_ _).mp hk
  obtain ⟨hj, he⟩ := List.getElem?_eq_some_iff.mp hk'
  have : (x.cps.toList.drop a).findIdx? (· == c) = some j := by
   rw [List.findIdx?_eq_some_iff_getElem]
   refine ⟨hj, by rw [he]; exact beq_self_eq_true c, fun i hi q => hn (a + i) (Nat.le_add_right _ _) (Nat.add_lt_add_left hi a) ((at_ _).mpr ?_)⟩
   rw [<- List.getElem?_drop, List.getElem?_eq_getElem (Nat.lt_trans hi hj), eq_of_beq q]
  unfold findFrom
  rw [this]
  exact congrArg some (Nat.add_comm j a)
theorem fromIndex_nat {n : Nat} {i : Int} (h0 : 0 <= i) : fromIndex n i = i.toNat := by
 unfold fromIndex
 rw [if_neg (by lia)]
 congr 1
 lia
theorem gives_index_from (x y : Str) (i : Int) (t u v : Tok) (k : Nat) (r : List Nat) (h : occurrences x y (fromIndex x.length i) x.length 1 = k :: r) : Gives (Builtin.«str.index» ⟨[.str x t, .str y u, .int i v], []⟩) (.int k) := by
 show Gives (match occurrences x y (fromIndex x.length i) (min x.length x.length) 1 with | k :: _ => retInt k | [] => (do rule "str.index.not-found"; raiseError "ValueError" "substring not found")) _
 rw [Nat.min_self, h]
 exact .of_eq rfl
theorem alnum128 : ∀ c, c < 128 -> Unicode.isAlnum c = isAlnumA c := by decide +kernel
theorem alpha128 : ∀ c, c < 128 -> Unicode.isAlpha c = isAlphaA c := by decide +kernel
theorem digit128 : ∀ c, c < 128 -> Unicode.isDigit c = isDigitA c := by decide +kernel
theorem lower128 : ∀ c, c < 128 -> Txt.lower ⟨#[c]⟩ = ⟨#[lowerA c]⟩ := by decide +kernel
section
variable {w : World} {A : Around} {E : Value -> Shared -> Prop} {s : Shared}
noncomputable def meTo : Me -> String
 | .find => "str.find" | .index => "str.index" | .isalnum => "str.isalnum" | .isdigit => "str.isdigit" | .isalpha => "str.isalpha" | .lower => "str.lower"
noncomputable def meName : Me -> Str
 | .find => "find" | .index => "index" | .isalnum => "isalnum" | .isdigit => "isdigit" | .isalpha => "isalpha" | .lower => "lower"
theorem me_get {m : Me} {x : Str} {t : Tok} {pl : Sem Bool} {Q : Value × List Value -> Shared -> Prop} (h : Q (.builtin (meTo m), [.str x t]) s) : wpAny (Mw w) A (getMethod (.str x t) (meName m) pl) Q E s := by
 cases m
 ·exact GM.find h
 ·exact GM.index h
 ·exact GM.isalnum h
 ·exact GM.isdigit h
 ·exact GM.isalpha h
 ·exact GM.lower h
variable {α β : Type} {T : β -> Shared -> α -> Prop} {X : Value -> Shared -> Xc -> Prop} {Q : β -> Shared -> Prop} {E' : Value -> Shared -> Prop}
theorem rda_cons {h : Heap} {vs : List Value} {x : PyData} {xs : List PyData} {as : List Addr} (r : ReadsAll h vs (x :: xs) as) : ∃ v ws bs cs, vs = v :: ws /\ Reads h v x bs /\ ReadsAll h ws xs cs /\ as = bs ++ cs := by
 cases r with | cons r1 r2 => exact ⟨_, _, _, _, rfl, r1, r2, rfl⟩
theorem rda_nil {h : Heap} {vs : List Value} {as : List Addr} (r : ReadsAll h vs [] as) : vs = [] /\ as = [] := by cases r; exact ⟨rfl, rfl⟩
theorem rda_one {h : Heap} {vs : List Value} {x : PyData} {as : List Addr} (r : ReadsAll h vs [x] as) : ∃ v, vs = [v] /\ Reads h v x as := by
 obtain ⟨v, ws, bs, cs, rfl, r1, r2, rfl⟩ := rda_cons r
 obtain ⟨rfl, rfl⟩ := rda_nil r2
 exact ⟨v, rfl, by rw [List.append_nil]; exact r1⟩
theorem okN_le {i : Int} (h : okN i = true) : 0 <= i /\ i < 2 ^ 62 := by
 simp only [okN, Bool.and_eq_true, decide_eq_true_eq] at h
 exact h
theorem okN_eq {i : Int} (h : okN i = true) : i = (i.toNat : Int) := (Int.toNat_of_nonneg (okN_le h).1).symm
theorem find_args {x : Str} {xs : List PyData} {vs : List Value} {bs : List Addr} {g : Option Nat -> Rs α} (D : Dn T X Q E ((findD x xs).bind g)) (rb : ReadsAll s.heap vs xs bs) :
  ∃ c u, (vs = [.str ⟨#[c]⟩ u] /\ Dn T X Q E (g (findFrom x c 0))) \/ ∃ (i : Nat) (v : Tok), vs = [.str ⟨#[c]⟩ u, .int i v] /\ Dn T X Q E (g (findFrom x c i)) := by
 cases xs with
 | nil => exact D.elim
 | cons y r =>
  replace D := dn_of2 str_takes D
  obtain ⟨y, rfl, D⟩ := D
  replace D := dn_some2 D
  obtain ⟨c, hc, D⟩ := D
  have := one_of hc
  subst this
  replace D := dn_if2 D
  obtain ⟨hz, D⟩ := D
  obtain ⟨v, ws, as, cs, rfl, r1, r2, -⟩ := rda_cons rb
  obtain ⟨u, rfl⟩ := rd_str r1
  cases r with
  | nil =>
   obtain ⟨rfl, -⟩ := rda_nil r2
   exact ⟨c, u, .inl ⟨rfl, D⟩⟩
  | cons z r =>
   cases r with
   | cons _ _ => exact D.elim
   | nil =>
   replace D : Dn T X Q E ((((intD z).bind fun i => if (okN i && decide (i.toNat <= x.cps.size)) = true then Rs.ok i.toNat else .stuck).bind fun i => Rs.ok (findFrom x c i)).bind g) := D
   rcases int_takes z with ⟨i, rfl, -⟩ | h
   ·replace D : Dn T X Q E (((if (okN i && decide (i.toNat <= x.cps.size)) = true then Rs.ok i.toNat else .stuck).bind fun i => Rs.ok (findFrom x c i)).bind g) := D
    by_cases hi : (okN i && decide (i.toNat <= x.cps.size)) = true
    ·rw [if_pos hi] at D
     obtain ⟨w, rfl, r3⟩ := rda_one r2
     obtain ⟨v, rfl⟩ := rd_int r3
     have h0 := okN_eq (Bool.and_eq_true_iff.mp hi).1
     exact ⟨c, u, .inr ⟨i.toNat, v, by rw [<- h0], D⟩⟩
    ·rw [if_neg hi] at D; exact D.elim
   ·rw [h] at D; exact D.elim
theorem snd_find {x : Str} {t : Tok} {xs : List PyData} {vs : List Value} {bs : List Addr} {g : PyData -> Rs α} {K : Value -> Shared -> Prop} (D : Dn T X Q E ((meS .find x xs).bind g)) (rb : ReadsAll s.heap vs xs bs)
  (k : ∀ v s' r, Grow s s' -> Reads s'.heap v r [] -> Dn T X Q E (g r) -> K v s') : wpAny (Mw w) A (call (.builtin "str.find") ([.str x t] ++ vs)) K E' s := by
 have D : Dn T X Q E ((findD x xs).bind fun o => g (.int (match o with | some k => (k : Int) | none => -1))) := by
  have D : Dn T X Q E (((findD x xs).bind fun o => Rs.ok (PyData.int (match o with | some k => (k : Int) | none => -1))).bind g) := D
  revert D
  cases findD x xs <;> exact id
 obtain ⟨c, u, ⟨rfl, D⟩ | ⟨i, v, rfl, D⟩⟩ := find_args D rb
 ·refine SC.find ?_
  unfold Txt.find
  rcases occ_ff x c 0 with ⟨h1, h2⟩ | ⟨j, r', h1, h2⟩
  all_goals rw [h1] at D; rw [h2]; exact k _ _ _ (Grow.tok _ _) (.int _ _) D
 ·refine SC.find3 ?_
  unfold Txt.find3
  rw [fromIndex_nat (Int.natCast_nonneg _), Int.toNat_natCast]
  rcases occ_ff x c i with ⟨h1, h2⟩ | ⟨j, r', h1, h2⟩
  all_goals rw [h1] at D; rw [h2]; exact k _ _ _ (Grow.tok _ _) (.int _ _) D
theorem snd_index {x : Str} {t : Tok} {xs : List PyData} {vs : List Value} {bs : List Addr} {g : PyData -> Rs α} {K : Value -> Shared -> Prop} (D : Dn T X Q E ((meS .index x xs).bind g)) (rb : ReadsAll s.heap vs xs bs)
  (k : ∀ v s' r, Grow s s' -> Reads s'.heap v r [] -> Dn T X Q E (g r) -> K v s') : wpAny (Mw w) A (call (.builtin "str.index") ([.str x t] ++ vs)) K E' s := by
 have D : Dn T X Q E ((findD x xs).bind fun o => (Rs.opt o fun k => Rs.ok (PyData.int k)).bind g) := by
  have D : Dn T X Q E (((findD x xs).bind fun o => Rs.opt o fun k => Rs.ok (PyData.int k)).bind g) := D
  revert D
  cases findD x xs <;> exact id
 obtain ⟨c, u, ⟨rfl, D⟩ | ⟨i, v, rfl, D⟩⟩ := find_args D rb
 ·replace D := dn_some2 D
  obtain ⟨n, hn, D⟩ := D
  rcases occ_ff x c 0 with ⟨h1, h2⟩ | ⟨j, r', h1, h2⟩
  ·rw [h1] at hn; cases hn
  ·rw [h1] at hn; cases hn
   exact SC.index h2 (k _ _ _ (Grow.tok _ _) (.int _ _) D)
 ·replace D := dn_some2 D
  obtain ⟨n, hn, D⟩ := D
  rcases occ_ff x c i with ⟨h1, h2⟩ | ⟨j, r', h1, h2⟩
  ·rw [h1] at hn; cases hn
  ·rw [h1] at hn; cases hn
   exact call_gives F.slot_str_index (typeIs_str _ _ _) F.entry_str_index (F.args_str_index_3 _ _ _) (gives_index_from x ⟨#[c]⟩ i t u v n r' (by rw [fromIndex_nat (Int.natCast_nonneg _), Int.toNat_natCast]; exact h2)) (k _ _ _ (Grow.tok _ _) (.int _ _) D)
theorem pred_args {p : Nat -> Bool} {P : Str -> Bool} {x : Str} {xs : List PyData} {vs : List Value} {bs : List Addr} {g : PyData -> Rs α} (D : Dn T X Q E ((predD p x xs).bind g)) (rb : ReadsAll s.heap vs xs bs) (h0 : P ⟨#[]⟩ = false) (h1 : ∀ c, c < 128 -> P ⟨#[c]⟩ = p c) :
  vs = [] /\ Dn T X Q E (g (.bool (P x))) := by
 replace D := dn_if2 D
 obtain ⟨hx, D⟩ := D
 cases xs with
 | cons _ _ => cases hx
 | nil =>
 refine ⟨(rda_nil rb).1, ?_⟩
 by_cases hz : x.cps.size = 0
 ·rw [if_pos hz] at D
  have : x = ⟨#[]⟩ := Str_ext (by rw [List.eq_nil_of_length_eq_zero (l := x.cps.toList) hz])
  rw [this, h0]; exact D
 ·rw [if_neg hz] at D
  replace D := dn_some2 D
  obtain ⟨c, hc, D⟩ := D
  replace D := dn_if2 D
  obtain ⟨h, D⟩ := D
  rw [one_of hc, h1 c h]; exact D
theorem snd_me {m : Me} {x : Str} {t : Tok} {xs : List PyData} {vs : List Value} {bs : List Addr} {g : PyData -> Rs α} {K : Value -> Shared -> Prop} (D : Dn T X Q E ((meS m x xs).bind g)) (rb : ReadsAll s.heap vs xs bs)
  (k : ∀ v s' r, Grow s s' -> Reads s'.heap v r [] -> Dn T X Q E (g r) -> K v s') : wpAny (Mw w) A (call (.builtin (meTo m)) ([.str x t] ++ vs)) K E' s := by
 cases m with
 | find => exact snd_find D rb k
 | index => exact snd_index D rb k
 | isalnum =>
  obtain ⟨rfl, D⟩ := pred_args (P := Txt.isalnum) D rb rfl fun c h => by rw [<- alnum128 c h]; simp [Txt.isalnum, Str.length]
  exact SC.isalnum (k _ _ _ (Grow.refl _) (.bool _) D)
 | isdigit =>
  obtain ⟨rfl, D⟩ := pred_args (P := Txt.isdigit) D rb rfl fun c h => by rw [<- digit128 c h]; simp [Txt.isdigit, Str.length]
  exact SC.isdigit (k _ _ _ (Grow.refl _) (.bool _) D)
 | isalpha =>
  obtain ⟨rfl, D⟩ := pred_args (P := Txt.isalpha) D rb rfl fun c h => by rw [<- alpha128 c h]; simp [Txt.isalpha, Str.length]
  exact SC.isalpha (k _ _ _ (Grow.refl _) (.bool _) D)
 | lower =>
  replace D := dn_if2 D
  obtain ⟨hx, D⟩ := D
  cases xs with
  | cons _ _ => cases hx
  | nil =>
  obtain ⟨rfl, -⟩ := rda_nil rb
  replace D := dn_some2 D
  obtain ⟨c, hc, D⟩ := D
  replace D := dn_if2 D
  obtain ⟨hl, D⟩ := D
  have := one_of hc
  subst this
  have e2 := lower128 c hl
  refine SC.lower (by rw [e2]; exact (rfl : tooLong 1 = false)) ?_
  rw [e2]
  exact k _ _ _ (Grow.tok _ _) (.str _ _) D
theorem keptStays (h₀ : Heap) : KeptH (fun h => h₀.StaysIn h) := fun _ ob F b o e => Heap.get?_push_of_some ob (F b o e)
theorem temp_str {value : Expr} {x : Str} {t : Tok} : ∀ r, letTemporaryGo value (.str x t) r = pure () := by
 intro r
 cases value <;> rfl
theorem reads_get {h : Heap} : ∀ {ds : List PyData} {vs : List Value} {as : List Addr}, ReadsAll h vs ds as -> ∀ {k : Nat} {d : PyData}, ds[k]? = some d -> ∃ v bs, vs[k]? = some v /\ Reads h v d bs /\ ∀ b ∈ bs, b ∈ as
 | [], _, _, _, k, d, e => nomatch e
 | x :: ds, _, _, r, k, d, e => by
  obtain ⟨v, ws, bs, cs, rfl, r1, r2, rfl⟩ := rda_cons r
  cases k with
  | zero => cases e; exact ⟨v, bs, rfl, r1, fun b hb => List.mem_append_left _ hb⟩
  | succ k =>
   obtain ⟨w, es, h1, h2, h3⟩ := reads_get r2 e
   exact ⟨w, es, h1, h2, fun b hb => List.mem_append_right _ (h3 b hb)⟩
theorem reads_len {h : Heap} {vs : List Value} {ds : List PyData} {as : List Addr} (r : ReadsAll h vs ds as) : vs.length = ds.length := SeqAt.ReadsAll.length ds vs as r
theorem seqIdx_nat {i : Int} {n : Nat} (h0 : 0 <= i) (h : i.toNat < n) : seqIndex? i n = some i.toNat := by
 unfold seqIndex?
 (repeat' split) <;> simp_all <;> lia
theorem item_ok {l : List PyData} {i : Int} {x : PyData} (hk : okN i = true) (h : l[i.toNat]? = some x) : itemAt l i = .ok x := by
 unfold itemAt
 rw [if_pos hk, h]; rfl
theorem dn_item {l : List PyData} {i : Int} {g : PyData -> Rs α} (D : Dn T X Q E ((itemAt l i).bind g)) : okN i = true /\ ∃ d, l[i.toNat]? = some d /\ Dn T X Q E (g d) := by
 replace D := dn_if2 D
 obtain ⟨h, D⟩ := D
 replace D := dn_some2 D
 obtain ⟨d, h2, D⟩ := D
 exact ⟨h, d, h2, D⟩
theorem strAt_some {x : Str} {i : Int} {c : Nat} (h : strAt x i = some c) : okN i = true /\ x.cps[i.toNat]? = some c := by
 unfold strAt at h
 by_cases hi : okN i = true
 ·rw [if_pos hi] at h; exact ⟨hi, h⟩
 ·rw [if_neg hi] at h; cases h
theorem snd_idx {x y : PyData} {value slice : Expr} {va vi : Value} {as bs : List Addr} {g : PyData -> Rs α} {K : Value -> Shared -> Prop} (D : Dn T X Q E ((idxD x y).bind g))
  (ra : Reads s.heap va x as) (rb : Reads s.heap vi y bs) (hs : ∀ o i, subscripted slice false o i = operate [o, i] (getItem o i))
  (k : ∀ v s' r, Grow s s' -> (∃ cs, Reads s'.heap v r cs /\ ∀ b ∈ cs, b ∈ as) -> Dn T X Q E (g r) -> K v s') : wpAny (Mw w) A (subscriptTail value slice va vi) K E' s := by
 replace D := dn_of2 int_takes D
 obtain ⟨i, rfl, D⟩ := D
 obtain ⟨u, rfl⟩ := rd_int rb
 cases x with
 | str x =>
  obtain ⟨t, rfl⟩ := rd_str ra
  replace D := dn_some2 D
  obtain ⟨c, hc, D⟩ := D
  obtain ⟨hi, hc⟩ := strAt_some hc
  obtain ⟨h0, h1⟩ := okN_le hi
  have hlt : i.toNat < x.length := (Array.getElem?_eq_some_iff.mp hc).1
  refine tail_any (typeIs_str _ _ _) slot_str_getitem.lookup (getItem_str ?_ (by rw [seqIdx_nat h0 hlt]; exact hc) (k _ _ _ (Grow.tok _ _) ⟨[], .str _ _, fun _ h => nomatch h⟩ D)) (hs _ _)
  simp only [Bool.or_eq_false_iff, decide_eq_false_iff_not]
  lia
 | list l =>
  obtain ⟨a, vs, cs, rfl, hL, hr, rfl⟩ := rd_list ra
  replace D := dn_item D
  obtain ⟨hi, d, hd, D⟩ := D
  obtain ⟨h0, h1⟩ := okN_le hi
  obtain ⟨v, ds, g1, g2, g3⟩ := reads_get hr hd
  exact tail_any hL.typeIs slot_list_getitem.lookup (wpAny_getItem_list hL h0 (by lia) (by simpa using g1) (k _ _ _ (Grow.refl _) ⟨ds, g2, fun b hb => List.mem_cons_of_mem _ (g3 b hb)⟩ D)) (hs _ _)
 | tuple l =>
  obtain ⟨a, vs, rfl, ⟨o, ho, hc, n, hd'⟩, hr⟩ := rd_tup ra
  replace D := dn_item D
  obtain ⟨hi, d, hd, D⟩ := D
  obtain ⟨h0, h1⟩ := okN_le hi
  obtain ⟨v, ds, g1, g2, g3⟩ := reads_get hr hd
  have hlt : i.toNat < vs.toList.length := (List.getElem?_eq_some_iff.mp g1).1
  exact item_tupleT (l := vs.toList) ⟨o, ho, hc, n, by rw [hd']⟩ (by lia) (by lia) (j := i.toNat) (seqIdx_nat h0 hlt) g1 (k _ _ _ (Grow.refl _) ⟨ds, g2, g3⟩ D) (hs _ _)
 | _ => exact D.elim
end
structure ClsOk (W : Wd) : Prop where
 name : W.mg "Raised" = some (.ref W.C)
 call : ∀ (A : Around) (outer : List Env) (s : Shared) (vs : List Value) (as : List Addr) (args : List PyData) (x : Xc) (Q E : Value -> Shared -> Prop),
  A.handled = none -> A.depth + 3 < recursionLimit -> A.units + 80 < cLine -> A.frames = some outer -> W.hR.StaysIn s.heap -> ReadsAll s.heap vs args as -> raisedD args = .ok (.exc x) ->
  (∀ e s', Grow s s' -> NewX W.C s.heap s'.heap e x -> Q (.ref e) s') -> wpAny (Mw W.w) A (PySem.call (.ref W.C) vs) Q E s
 with_ : ∀ (A : Around) (env : Env) (s : Shared) (pos : Pos) (e : Expr) (rest : List Expr) (Q E : Value -> Shared -> Prop), W.hR.StaysIn s.heap -> starEach (e :: rest) env = (false, eval e env) :: starEach rest env ->
  ((backTo pos (starEach rest env)).any (·.1)) = false ->
  wpAny (Mw W.w) A (spliced (backTo pos (starEach (e :: rest) env))) (fun vs s₁ => W.hR.StaysIn s₁.heap /\ wpAny (Mw W.w) A (PySem.call (.ref W.C) vs) Q E s₁) E s ->
  wpAny (Mw W.w) A (callWith pos (.ref W.C) [] (backTo pos (starEach (e :: rest) env)) []) Q E s
noncomputable def RaiseOk (W : Wd) : Prop :=
 ∀ (A : Around) (env : Env) (xm : Sem Value) (s : Shared) (Q : Flow -> Shared -> Prop) (E : Value -> Shared -> Prop) (x : Xc), A.handled = none ->
  wpAny (Mw W.w) A xm (fun v s₁ => ∃ e h₀, v = .ref e /\ NewX W.C h₀ s₁.heap e x /\ W.hR.StaysIn s₁.heap /\ E (.ref e) s₁) E s -> wpAny (Mw W.w) A (raiseStmt env (some xm) none) Q E s
theorem ExG.grow {C : Addr} {l : List Env} {s s₁ s' : Shared} {e : Value} {x : Xc} (g : Grow s s₁) (X : ExG C l s₁ e s' x) : ExG C l s e s' x := by
 obtain ⟨h₁, t₁, rfl, k⟩ := g
 obtain ⟨a, h', tk, rfl, rfl, ⟨f1, f2, f3, oe, vs, T, oT, ts, dd, c1, c2, c3, c4, c5, c6, c7, c8, c9, c10, c11, c12, c13⟩, u⟩ := X
 have st : (hideAll s.heap (framesOf l)).StaysIn (hideAll h₁ (framesOf l)) := fun b o q => by
  refine hideAll_get _ (k b o (of_hideAll _ q)) fun hm => ?_
  rw [hideAll_none _ hm] at q; cases q
 exact ⟨a, h', tk, rfl, rfl, ⟨fun b o q => f1 b o (st b o q), fresh_of_stays st f2, funFrames_base st f3, oe, vs, T, oT, ts, dd, c1, c2, c3, fresh_of_stays st c4, c5, c6, c7, c8, fresh_of_stays st c9, c10, c11, c12, c13⟩,
  (Heap.UpToSlots.of_keeps k).trans u⟩
theorem NewX.weaken {C : Addr} {h₀ h h' : Heap} {e : Addr} {x : Xc} (k : h₀.StaysIn h) (N : NewX C h h' e x) : NewX C h₀ h' e x := by
 obtain ⟨a, b, oe, vs, dd, a0, c1, c2, c3, c4, c5, c6, c7, c8, c9, c10⟩ := N
 exact ⟨fun b o q => a b o (k b o q), fresh_of_stays k b, oe, vs, dd, a0, c1, c2, c3, fresh_of_stays k c4, c5, c6, c7, c8, c9, c10⟩
structure Fm.Ok' (f : Fm) : Prop extends Fm.Ok f where
 cls : ClsOk f.W
 raise_ : RaiseOk f.W
noncomputable abbrev ExF (f : Fm) := ExG f.W.C (f.env :: f.outer)
noncomputable abbrev DV (f : Fm) (oa : Option Addr) (s : Shared) (Q E : Value -> Shared -> Prop) (r : Rs V) : Prop := Dn (fun v s' x => Grow s s' /\ RpV f oa s' v x) (ExF f s) Q E r
noncomputable abbrev DB (f : Fm) (s : Shared) (Q : Bool -> Shared -> Prop) (E : Value -> Shared -> Prop) (r : Rs Bool) : Prop := Dn (fun b s' x => Grow s s' /\ b = x) (ExF f s) Q E r
noncomputable def RpAll (f : Fm) (oa : Option Addr) (h : Heap) (vs : List Value) (xs : List PyData) : Prop :=
 ∃ as, ReadsAll h vs xs as /\ ∀ b ∈ as, GoodA f oa b
noncomputable abbrev DL (f : Fm) (oa : Option Addr) (n : Nat) (s : Shared) (Q : List Value -> Shared -> Prop) (E : Value -> Shared -> Prop) (r : Rs (List PyData)) : Prop := Dn (fun vs s' xs => Grow s s' /\ RpAll f oa s'.heap vs xs /\ vs.length = n) (ExF f s) Q E r
noncomputable def EvOk (f : Fm) (e : Expr) (c : Ex) : Prop :=
 ∀ (oa : Option Addr) (σ : Sg) (s : Shared) (Q E : Value -> Shared -> Prop), St f oa σ s.heap -> DV f oa s Q E (ev f.cf σ c) -> wpAny (Mw f.W.w) f.A (eval e f.env) Q E s
noncomputable def TrOk (f : Fm) (e : Expr) (c : Ex) : Prop :=
 ∀ (oa : Option Addr) (σ : Sg) (s : Shared) (Q : Bool -> Shared -> Prop) (E : Value -> Shared -> Prop), St f oa σ s.heap -> DB f s Q E ((ev f.cf σ c).bind boolOf) -> wpAny (Mw f.W.w) f.A (isTrue e f.env (eval e f.env)) Q E s
noncomputable def EvsOk (f : Fm) (l : List Expr) (c : Exs) : Prop :=
 ∀ (oa : Option Addr) (pos : Pos) (σ : Sg) (s : Shared) (Q : List Value -> Shared -> Prop) (E : Value -> Shared -> Prop), St f oa σ s.heap -> DL f oa l.length s Q E (evs f.cf σ c) -> wpAny (Mw f.W.w) f.A (spliced (backTo pos (starEach l f.env))) Q E s
noncomputable def BoOk (f : Fm) (o : BoolOp) (l : List Expr) (r : Sg -> Rs Bool) : Prop :=
 (∀ (oa : Option Addr) (pos : Pos) (σ : Sg) (s : Shared) (Q E : Value -> Shared -> Prop), l ≠ [] -> St f oa σ s.heap -> Dn (fun v s' b => Grow s s' /\ v = .bool b) (ExF f s) Q E (r σ) -> wpAny (Mw f.W.w) f.A (eval (.BoolOp o l pos) f.env) Q E s) /\
 (∀ (oa : Option Addr) (pos : Pos) (whole : Sem Value) (σ : Sg) (s : Shared) (Q : Bool -> Shared -> Prop) (E : Value -> Shared -> Prop), St f oa σ s.heap -> DB f s Q E (r σ) -> wpAny (Mw f.W.w) f.A (isTrue (.BoolOp o l pos) f.env whole) Q E s)
theorem bnd {α β : Type} {o : Option α} {k : α -> Option β} {y : β} (h : o.bind k = some y) : ∃ x, o = some x /\ k x = some y := Option.bind_eq_some_iff.mp h
theorem mpd {α β : Type} {o : Option α} {k : α -> β} {y : β} (h : o.map k = some y) : ∃ x, o = some x /\ k x = y := Option.map_eq_some_iff.mp h
theorem ifd {α : Type} {c : Prop} [Decidable c] {a : Option α} {y : α} (h : (if c then a else none) = some y) : c /\ a = some y := by
 by_cases q : c
 ·rw [if_pos q] at h; exact ⟨q, h⟩
 ·rw [if_neg q] at h; cases h
theorem ifnd {α : Type} {c : Prop} [Decidable c] {a : Option α} {y : α} (h : (if c then none else a) = some y) : ¬c /\ a = some y := by
 by_cases q : c
 ·rw [if_pos q] at h; cases h
 ·rw [if_neg q] at h; exact ⟨q, h⟩
section
variable {σ τ β : Type} {ci : σ -> Nat} {C : τ -> σ} {n : Nat} {g : ∀ e, ci e = n -> { x : τ // e = C x }} {e : σ}
theorem vb {k : τ -> Option β} {y : β} (h : (vw ci C n g e).bind k = some y) : ∃ x, e = C x /\ k x = some y := by
 obtain ⟨x, h1, h⟩ := bnd h
 exact ⟨x, vw_eq h1, h⟩
theorem vm {k : τ -> β} {y : β} (h : (vw ci C n g e).map k = some y) : ∃ x, e = C x /\ k x = y := by
 obtain ⟨x, h1, h⟩ := mpd h
 exact ⟨x, vw_eq h1, h⟩
end
theorem orE_some {α : Type} {a b : Option α} {x : α} (h : orE a b = some x) : a = some x \/ b = some x := by
 cases a with
 | none => exact .inr h
 | some y => exact .inl h
section
variable {α β : Type} {Q : Prop} {P : β -> Prop} {o : Option α} {y : β} {a b : Option β}
theorem bd {k : α -> Option β} (h : o.bind k = some y) (K : ∀ x, o = some x -> k x = some y -> Q) : Q := Exists.elim (bnd h) fun x h => K x h.1 h.2
theorem md {k : α -> β} (h : o.map k = some y) (K : ∀ x, o = some x -> P (k x)) : P y := Exists.elim (mpd h) fun x h => h.2 ▸ K x h.1
theorem vd {σ τ : Type} {ci : σ -> Nat} {C : τ -> σ} {n : Nat} {g : ∀ e, ci e = n -> { x : τ // e = C x }} {e : σ} {k : τ -> Option β} (h : (vw ci C n g e).bind k = some y) (K : ∀ x, e = C x -> k x = some y -> Q) : Q := Exists.elim (vb h) fun x h => K x h.1 h.2
theorem fd {c : Prop} [Decidable c] (h : (if c then a else none) = some y) (K : c -> a = some y -> Q) : Q := K (ifd h).1 (ifd h).2
theorem nd {c : Prop} [Decidable c] (h : (if c then none else a) = some y) (K : ¬c -> a = some y -> Q) : Q := K (ifnd h).1 (ifnd h).2
theorem yd {c : Prop} [Decidable c] (h : (if c then a else b) = some y) (K : c -> a = some y -> Q) (L : ¬c -> b = some y -> Q) : Q := by
 by_cases q : c
 ·rw [if_pos q] at h; exact K q h
 ·rw [if_neg q] at h; exact L q h
theorem jd (h : orE a b = some y) (K : a = some y -> Q) (L : b = some y -> Q) : Q := (orE_some h).elim K L
theorem hd1 {x : β} (h : some x = some y) (K : P x) : P y := Option.some.inj h ▸ K
end
theorem asName_eq {e : Expr} {x : Str} (h : asName e = some x) : ∃ p, e = .Name x p := by
 obtain ⟨y, rfl, rfl⟩ := vm h
 exact ⟨_, rfl⟩
theorem asList_eq {e : Expr} {l : List Expr} (h : asList e = some l) : ∃ p, e = .List l p := by
 obtain ⟨y, rfl, rfl⟩ := vm h
 exact ⟨_, rfl⟩
theorem asTup_eq {e : Expr} {l : List Expr} (h : asTup e = some l) : ∃ k p, e = .Tuple l k p := by
 obtain ⟨y, rfl, rfl⟩ := vm h
 exact ⟨_, _, rfl⟩
theorem asCall_eq {e : Expr} {y : Expr × List Expr × Pos} (h : asCall e = some y) : e = .Call y.1 y.2.1 [] y.2.2 := by
 obtain ⟨x, rfl, h⟩ := vb h
 obtain ⟨h1, h⟩ := ifd h
 cases h
 rw [List.isEmpty_iff.mp h1]
theorem asAttr_eq {e : Expr} {y : Expr × Str × Pos} (h : asAttr e = some y) : e = .Attribute y.1 y.2.1 y.2.2 := by
 unfold asAttr asAttrP at h
 have := vw_eq h
 exact this
theorem asPlus_eq {e : Expr} {y : Expr × Expr} (h : asPlus e = some y) : ∃ p, e = .BinOp y.1 .Add y.2 p := by
 obtain ⟨x, rfl, h⟩ := vb h
 obtain ⟨h1, h⟩ := ifd h
 cases h
 exact ⟨_, by rw [h1]⟩
theorem asSlice_eq {e : Expr} {y : Option Expr × Option Expr × Option Expr} (h : asSlice e = some y) : ∃ p, e = .Slice y.1 y.2.1 y.2.2 p := by
 obtain ⟨x, rfl, h⟩ := vm h
 cases h
 exact ⟨_, rfl⟩
theorem asDict_eq {e : Expr} {y : List (Option Expr) × List Expr} (h : asDict e = some y) : ∃ p, e = .Dict y.1 y.2 p := by
 obtain ⟨x, rfl, h⟩ := vm h
 cases h
 exact ⟨_, rfl⟩
theorem asConst_eq {e : Expr} {c : Const} (h : asConst e = some c) : ∃ k p, e = .Constant c k p := by
 obtain ⟨y, rfl, rfl⟩ := vm h
 exact ⟨_, _, rfl⟩
theorem asStr_eq {e : Expr} {x : Str} (h : asStr e = some x) : ∃ k p, e = .Constant (.str x) k p := by
 obtain ⟨c, h1, h2⟩ := bnd h
 obtain ⟨⟨_, rfl⟩, -, rfl⟩ := mpd h2
 exact asConst_eq h1
theorem asInt_eq {e : Expr} {i : Int} (h : asInt e = some i) : ∃ k p, e = .Constant (.int i) k p := by
 obtain ⟨c, h1, h2⟩ := bnd h
 obtain ⟨⟨_, rfl⟩, -, rfl⟩ := mpd h2
 exact asConst_eq h1
theorem asNeg_eq {e a : Expr} (h : asNeg e = some a) : ∃ q, e = .UnaryOp .USub a q := by
 obtain ⟨x, rfl, h⟩ := vb h
 obtain ⟨h1, h⟩ := ifd h
 cases h
 exact ⟨_, by rw [h1]⟩
theorem isM1_eq {e : Expr} (h : isM1 e = true) : ∃ k p q, e = .UnaryOp .USub (.Constant (.int 1) k p) q := by
 obtain ⟨a, h1, h2⟩ := bnd (beq_iff_eq.mp h)
 obtain ⟨q, rfl⟩ := asNeg_eq h1
 obtain ⟨k, p, rfl⟩ := asInt_eq h2
 exact ⟨k, p, q, rfl⟩
theorem isOwn_name {c : Cf} {e : Expr} (h : isOwn c e = true) : ∃ x p, e = .Name x p /\ c.own = some x := by
 unfold isOwn at h
 cases hx : asName e with
 | none => rw [hx] at h; cases h
 | some x =>
  rw [hx] at h
  obtain ⟨p, rfl⟩ := asName_eq hx
  exact ⟨x, p, rfl, beq_iff_eq.mp h⟩
theorem isNil_list {e : Expr} (h : isNil e = true) : ∃ p, e = .List [] p := by
 unfold isNil at h
 cases hx : asList e with
 | none => rw [hx] at h; cases h
 | some l =>
  rw [hx] at h
  obtain ⟨p, rfl⟩ := asList_eq hx
  rw [List.isEmpty_iff.mp h]
  exact ⟨p, rfl⟩
theorem cE_some {c : Cf} {n : Nat} {e : Expr} {x : Ex} (h : cE c n e = some x) : kindE e = true /\ ∃ m, n = m + 1 /\ (lLaw (cE c m) e = some x \/ cE1 c (cE c m) (cEs c m) e = some x) := by
 cases n with
 | zero => cases h
 | succ m =>
  by_cases hk : kindE e = true
  ·refine ⟨hk, m, rfl, ?_⟩
   have h : (if kindE e then orE (if c.hd then lLaw (cE c m) e else none) (cE1 c (cE c m) (cEs c m) e) else none) = some x := h
   rw [if_pos hk] at h
   rcases orE_some h with h | h
   ·by_cases hd : c.hd = true
    ·rw [if_pos hd] at h; exact .inl h
    ·rw [if_neg hd] at h; cases h
   ·exact .inr h
  ·have h : (if kindE e then orE (if c.hd then lLaw (cE c m) e else none) (cE1 c (cE c m) (cEs c m) e) else none) = some x := h
   rw [if_neg hk] at h; cases h
theorem cE_kind {c : Cf} {n : Nat} {e : Expr} {x : Ex} (h : cE c n e = some x) : kindE e = true := (cE_some h).1
noncomputable def isStar : Expr -> Bool
 | .Starred .. => true
 | _ => false
structure Kd (e : Expr) : Prop where
 star : ∀ rest env, starEach (e :: rest) env = (false, eval e env) :: starEach rest env
 marks : ∀ op, behindInMarks op e = false
 slice : ∀ o i, subscripted e false o i = operate [o, i] (getItem o i)
 swaps : ∀ t l env, swapsWith e t l env = pure false
 nstar : isStar e = false
 fold : ∀ env v, foldedSetIterable e env v = pure v
 disp : isDisp e = false -> ∀ ts k tp env, swappedStores [.Tuple ts k tp] e env = pure none
theorem kd {c : Cf} {n : Nat} {e : Expr} {x : Ex} (h : cE c n e = some x) : Kd e := by
 replace h := cE_kind h
 cases e <;> first | exact absurd h Bool.false_ne_true | exact ⟨fun _ _ => rfl, fun _ => rfl, fun _ _ => rfl, fun _ _ _ => rfl, rfl, fun _ _ => rfl, fun _ _ _ _ _ => rfl⟩ | exact ⟨fun _ _ => rfl, fun _ => rfl, fun _ _ => rfl, fun _ _ _ => rfl, rfl, fun _ _ => rfl, fun h => absurd h.symm Bool.false_ne_true⟩
theorem cEs_nil {c : Cf} {n : Nat} {x : Exs} (h : cEs c n [] = some x) : x = .nil := by
 cases n with
 | zero => cases h
 | succ n => cases h; rfl
theorem cEs_cons {c : Cf} {n : Nat} {e : Expr} {l : List Expr} {x : Exs} (h : cEs c n (e :: l) = some x) : ∃ m a b, n = m + 1 /\ cE c m e = some a /\ cEs c m l = some b /\ x = .cons a b := by
 cases n with
 | zero => cases h
 | succ n =>
  obtain ⟨a, h1, h⟩ := Option.bind_eq_some_iff.mp (show (cE c n e).bind (fun a => (cEs c n l).map fun l => Exs.cons a l) = some x from h)
  obtain ⟨b, h2, rfl⟩ := Option.map_eq_some_iff.mp h
  exact ⟨n, a, b, rfl, h1, h2, rfl⟩
theorem cEs_any {c : Cf} {pos : Pos} {env : Env} : ∀ {l : List Expr} {n : Nat} {x : Exs}, cEs c n l = some x -> ((backTo pos (starEach l env)).any (·.1)) = false
 | [], _, _, _ => rfl
 | e :: l, n, x, h => by
  obtain ⟨m, a, b, -, h1, h2, -⟩ := cEs_cons h
  rw [(kd h1).star]
  exact cEs_any (l := l) h2
theorem cEs_len {c : Cf} : ∀ {l : List Expr} {n : Nat} {x : Exs}, cEs c n l = some x -> l.length < n
 | [], 0, _, h => nomatch h
 | [], _ + 1, _, _ => Nat.succ_pos _
 | e :: l, n, x, h => by
  obtain ⟨m, a, b, rfl, -, h2, -⟩ := cEs_cons h
  exact Nat.succ_lt_succ (cEs_len h2)
theorem bool_of_rp {f : Fm} {oa : Option Addr} {h : Heap} {v : Value} {b : Bool} (r : Rp f oa h v (.bool b)) : v = .bool b := let ⟨_, ra, _⟩ := r; rd_bool ra
section
variable {f : Fm} {α β γ : Type} {T : β -> Shared -> α -> Prop} {X : Value -> Shared -> Xc -> Prop} {Q : β -> Shared -> Prop} {E : Value -> Shared -> Prop} {oa : Option Addr} {σ : Sg} {s : Shared}
theorem ev_d {e : Expr} {c : Ex} {g : PyData -> Rs α} {K : Value -> Shared -> Prop} (H : EvOk f e c) (S : St f oa σ s.heap) (D : Dn T X Q E ((ev f.cf σ c).bind fun x => x.dat.bind g)) (hX : ∀ e s' x, ExF f s e s' x -> X e s' x)
  (k : ∀ v s₁ x, Grow s s₁ -> Rp f oa s₁.heap v x -> Dn T X Q E (g x) -> K v s₁) : wpAny (Mw f.W.w) f.A (eval e f.env) K E s :=
 H oa σ s K E S (dn_dat D hX fun v s₁ x t D => k v s₁ x t.1 t.2 D)
theorem tr_d {e : Expr} {c : Ex} {g : Bool -> Rs α} {K : Bool -> Shared -> Prop} (H : TrOk f e c) (S : St f oa σ s.heap) (D : Dn T X Q E ((ev f.cf σ c).bind fun x => (boolOf x).bind g)) (hX : ∀ e s' x, ExF f s e s' x -> X e s' x)
  (k : ∀ b s₁, Grow s s₁ -> Dn T X Q E (g b) -> K b s₁) : wpAny (Mw f.W.w) f.A (isTrue e f.env (eval e f.env)) K E s :=
 H oa σ s K E S (dn_testB D hX fun b s₁ b' t D => k b s₁ t.1 (t.2 ▸ D))
theorem evs_d {l : List Expr} {c : Exs} {p : Pos} {g : List PyData -> Rs α} {K : List Value -> Shared -> Prop} (H : EvsOk f l c) (S : St f oa σ s.heap) (D : Dn T X Q E ((evs f.cf σ c).bind g)) (hX : ∀ e s' x, ExF f s e s' x -> X e s' x)
  (k : ∀ vs s₁ xs, Grow s s₁ -> RpAll f oa s₁.heap vs xs -> vs.length = l.length -> Dn T X Q E (g xs) -> K vs s₁) : wpAny (Mw f.W.w) f.A (spliced (backTo p (starEach l f.env))) K E s :=
 H oa p σ s K E S (dn_bind D hX fun vs s₁ xs t D => k vs s₁ xs t.1 t.2.1 t.2.2 D)
end
theorem exF_id {f : Fm} {s : Shared} : ∀ e s' x, ExF f s e s' x -> ExF f s e s' x := fun _ _ _ h => h
theorem exF_grow {f : Fm} {s s₁ : Shared} (G : Grow s s₁) : ∀ e s' x, ExF f s₁ e s' x -> ExF f s e s' x := fun _ _ _ h => h.grow G
theorem tr_of_ev {f : Fm} {e : Expr} {c : Ex} (H : EvOk f e c) (he : isTrue e f.env (eval e f.env) = (do let v <- eval e f.env; standAt e.pos; holding [v] (truthy v))) : TrOk f e c := by
 intro oa σ s Q E S D
 refine isTrue_plain (H oa σ s _ _ S (dn_bind D exF_id fun v s₁ x t D => ?_)) he
 rcases bool_takes x with ⟨b, rfl⟩ | h
 ·rw [bool_of_rp t.2]
  exact wpAny_truthy_bool (D _ _ ⟨t.1, rfl⟩)
 ·rw [h] at D; exact D.elim
section
variable {f : Fm}
theorem ev_const {c : Const} {k : Nat} {p : Pos} {x : Ex} (h : cConst c = some x) : EvOk f (.Constant c k p) x := by
 intro oa σ s Q E S D
 cases c with
 | none => cases h; exact wpAny_Constant_none (D _ _ ⟨Grow.refl _, Rp.nil .none⟩)
 | bool b => cases h; exact wpAny_Constant_bool (D _ _ ⟨Grow.refl _, Rp.nil (.bool _)⟩)
 | int i => cases h; exact wpAny_Constant_int (D _ _ ⟨Grow.tok _ _, Rp.nil (.int _ _)⟩)
 | str x => cases h; exact wpAny_Constant_str (D _ _ ⟨Grow.tok _ _, Rp.nil (.str _ _)⟩)
 | _ => cases h
theorem slot_name {c : Cf} {x : Str} {i : Nat} (h : slotOf c x = some i) : c.names[i]? = some x /\ c.own ≠ some x := by
 unfold slotOf at h
 by_cases ho : (c.own == some x) = true
 ·rw [if_pos ho] at h; cases h
 ·rw [if_neg ho] at h
  refine ⟨?_, fun q => ho (by rw [q]; simp)⟩
  obtain ⟨h1, h2, _⟩ := List.findIdx?_eq_some_iff_getElem.mp h
  rw [List.getElem?_eq_getElem h1, beq_iff_eq.mp h2]
theorem kind_loc (O : f.Ok) {x : Str} (h : x ∈ f.cfg.names) : f.env.kindOf x = some .local := (O.loc x h).1
theorem kind_glb (O : f.Ok) {x : Str} (h : x ∈ f.cfg.globs) : f.env.kindOf x = some .globalImplicit := (O.glb x h).1
theorem ld_slot (O : f.Ok) {x : Str} {i : Nat} {oa : Option Addr} {σ : Sg} {s : Shared} {α β : Type} {T : β -> Shared -> α -> Prop} {X : Value -> Shared -> Xc -> Prop} {Q : β -> Shared -> Prop} {E : Value -> Shared -> Prop} {g : PyData -> Rs α}
  (hs : slotOf f.cfg x = some i) (S : St f oa σ s.heap) (D : Dn T X Q E ((σ.get i).bind fun x => x.dat.bind g)) :
  ∃ m v y, Fr f.h₀ f.L s.heap m /\ x ∈ f.cfg.names /\ m x = some v /\ Rp f oa s.heap v y /\ Dn T X Q E (g y) := by
 replace D := dn_some2 D
 obtain ⟨o, hi, D⟩ := D
 replace D := dn_some2 D
 obtain ⟨y, rfl, D⟩ := D
 obtain ⟨m, F, he, _⟩ := S
 obtain ⟨nm, v, h1, h2, h3, h4⟩ := he i y hi
 have g1 := (slot_name hs).1
 rw [g1] at h1
 cases h1
 exact ⟨m, v, y, F, List.mem_of_getElem? g1, h3, h4, D⟩
theorem ev_name (O : f.Ok) {x : Str} {p : Pos} {i : Nat} (hs : slotOf f.cfg x = some i) : EvOk f (.Name x p) (.v i) := by
 intro oa σ s Q E S D
 replace D := dn_some D
 obtain ⟨o, hi, D⟩ := D
 replace D := dn_some D
 obtain ⟨y, rfl, D⟩ := D
 obtain ⟨m, F, he, _⟩ := S
 obtain ⟨nm, v, h1, h2, h3, h4⟩ := he i y hi
 have g1 := (slot_name hs).1
 rw [g1] at h1
 cases h1
 have hm := List.mem_of_getElem? g1
 exact ldX F h3 (D _ _ ⟨Grow.refl s, h4⟩) O.kind (kind_loc O hm) (O.loc x hm).2
theorem ev_bin (O : f.Ok) {a b : Expr} {o : Operator} {p : Pos} {o' : O2} {ca cb : Ex} (Ha : EvOk f a ca) (Hb : EvOk f b cb) (ho : o2Of o = some o') : EvOk f (.BinOp a o b p) (.bin o' ca cb) := by
 intro oa σ s Q E S D
 rw [o2To_of ho]
 refine wpAny_BinOp (ev_d Ha S D exF_id fun va s₁ xa G₁ Ra D => ev_d Hb (S.grow G₁) D (exF_grow G₁) fun vb s₂ xb G₂ Rb D => ?_)
 obtain ⟨as, ra, _⟩ := Ra.stays G₂.stays
 obtain ⟨bs, rb, _⟩ := Rb
 exact snd_op2 O.A_handled D ra rb fun v s' r G R D => D _ _ ⟨(G₁.trans G₂).trans G, Rp.nil R⟩
theorem ev_neg {a : Expr} {p : Pos} {ca : Ex} (Ha : EvOk f a ca) : EvOk f (.UnaryOp .USub a p) (.neg ca) := by
 intro oa σ s Q E S D
 refine UnaryOp_ (ev_d Ha S D exF_id fun va s₁ xa G₁ Ra D => ?_)
 replace D := dn_of int_takes D
 obtain ⟨i, rfl, D⟩ := D
 obtain ⟨as, ra, _⟩ := Ra
 obtain ⟨t, rfl⟩ := rd_int ra
 exact PyProof.Rows.neg_int (D _ _ ⟨G₁.trans (Grow.tok _ _), Rp.nil (.int _ _)⟩)
theorem ev_b {e : Expr} {c : Ex} {α β : Type} {T : β -> Shared -> α -> Prop} {X : Value -> Shared -> Xc -> Prop} {Q : β -> Shared -> Prop} {E : Value -> Shared -> Prop} {oa : Option Addr} {σ : Sg} {s : Shared} {g : Bool -> Rs α} {K : Value -> Shared -> Prop}
  (H : EvOk f e c) (S : St f oa σ s.heap) (D : Dn T X Q E ((ev f.cf σ c).bind fun x => (boolOf x).bind g)) (hX : ∀ e s' x, ExF f s e s' x -> X e s' x)
  (k : ∀ b s₁, Grow s s₁ -> Dn T X Q E (g b) -> K (.bool b) s₁) : wpAny (Mw f.W.w) f.A (eval e f.env) K E s :=
 H oa σ s K E S (dn_test D hX fun v s₁ b t D => by rw [bool_of_rp t.2]; exact k b s₁ t.1 D)
theorem bb {α : Type} {r : Rs V} {g : Bool -> Rs α} : (r.bind fun x => (boolOf x).bind g) = (r.bind boolOf).bind g := by cases r <;> rfl
theorem not_test {r : Rs V} : (r.bind fun x => (boolOf x).bind fun b => Rs.ok (V.d (.bool !b))).bind boolOf = r.bind fun x => (boolOf x).bind fun b => .ok !b := by
 cases r with
 | ok x => show ((boolOf x).bind _).bind boolOf = (boolOf x).bind _; cases boolOf x <;> rfl
 | _ => rfl
theorem ev_not {a : Expr} {p : Pos} {ca : Ex} (Ha : EvOk f a ca) (Ta : TrOk f a ca) : EvOk f (.UnaryOp .Not a p) (.not ca) /\ TrOk f (.UnaryOp .Not a p) (.not ca) := by
 refine ⟨fun oa σ s Q E S D => ?_, fun oa σ s Q E S D => ?_⟩
 ·exact UnaryOp_ (ev_b Ha S D exF_id fun b s₁ G₁ D => not_of (wpAny_truthy_bool (D _ _ ⟨G₁, Rp.nil (.bool _)⟩)))
 ·have D : DB f s Q E (((ev f.cf σ ca).bind fun x => (boolOf x).bind fun b => Rs.ok (V.d (.bool !b))).bind boolOf) := D
  rw [not_test] at D
  exact isTrue_not (tr_d Ta S D exF_id fun b s' G D => D _ _ ⟨G, rfl⟩)
theorem ev_two {a b : Expr} {o : CmpOp} {o' : Cp} {ca cb : Ex} (O : f.Ok) (Ha : EvOk f a ca) (Hb : EvOk f b cb) (ho : cpOf o = some o') {α β : Type} {T : β -> Shared -> α -> Prop} {X : Value -> Shared -> Xc -> Prop} {Q : β -> Shared -> Prop} {E : Value -> Shared -> Prop} {oa : Option Addr} {σ : Sg} {s : Shared} {g : Bool -> Rs α} {K : Value -> Shared -> Prop}
  (S : St f oa σ s.heap) (D : Dn T X Q E ((ev f.cf σ ca).bind fun x => x.dat.bind fun x => (ev f.cf σ cb).bind fun y => y.dat.bind fun y => (cpD o' x y).bind g)) (hX : ∀ e s' x, ExF f s e s' x -> X e s' x)
  (k : ∀ b s', Grow s s' -> Dn T X Q E (g b) -> K (.bool b) s') :
  wpAny (Mw f.W.w) f.A (eval a f.env) (fun va s₁ => wpAny (Mw f.W.w) f.A (eval b f.env) (fun vb s₂ => wpAny (Mw f.W.w) f.A (compareOp o va vb) K E s₂) E s₁) E s := by
 rw [cpTo_of ho]
 refine ev_d Ha S D hX fun va s₁ xa G₁ Ra D => ev_d Hb (S.grow G₁) D (fun e s' x h => hX e s' x (h.grow G₁)) fun vb s₂ xb G₂ Rb D => ?_
 obtain ⟨as, ra, _⟩ := Ra.stays G₂.stays
 obtain ⟨bs, rb, _⟩ := Rb
 exact snd_cp O.A_units D ra rb fun r D => k r s₂ (G₁.trans G₂) D
theorem tr_val {r : Rs Bool} : (r.bind fun b => Rs.ok (V.d (.bool b))).bind boolOf = r := by cases r <;> rfl
theorem bind_assoc {α β γ : Type} {r : Rs α} {g : α -> Rs β} {h : β -> Rs γ} : (r.bind g).bind h = r.bind fun x => (g x).bind h := by cases r <;> rfl
theorem tr_cmp {r q : Rs V} {o : Cp} : ((r.bind fun x => x.dat.bind fun x => q.bind fun y => y.dat.bind fun y => (cpD o x y).bind fun b => Rs.ok (V.d (.bool b))).bind boolOf) = r.bind fun x => x.dat.bind fun x => q.bind fun y => y.dat.bind fun y => (cpD o x y).bind .ok := by
 rw [bind_assoc]; congr 1; funext x
 rw [bind_assoc]; congr 1; funext x
 rw [bind_assoc]; congr 1; funext y
 rw [bind_assoc]; congr 1; funext y
 rw [bind_assoc]; rfl
theorem ev_cmp (O : f.Ok) {a b : Expr} {o : CmpOp} {o' : Cp} {p : Pos} {ca cb : Ex} (Ha : EvOk f a ca) (Hb : EvOk f b cb) (ho : cpOf o = some o') (hm : behindInMarks o b = false) :
  EvOk f (.Compare a [o] [b] p) (.cmp o' ca cb) /\ TrOk f (.Compare a [o] [b] p) (.cmp o' ca cb) := by
 refine ⟨fun oa σ s Q E S D => ?_, fun oa σ s Q E S D => ?_⟩
 ·exact wpAny_Compare1 (ev_two O Ha Hb ho S D exF_id fun b s' G D => D _ _ ⟨G, Rp.nil (.bool _)⟩) hm
 ·have D : DB f s Q E (((ev f.cf σ ca).bind fun x => x.dat.bind fun x => (ev f.cf σ cb).bind fun y => y.dat.bind fun y => (cpD o' x y).bind fun b => Rs.ok (V.d (.bool b))).bind boolOf) := D
  rw [tr_cmp] at D
  exact wpAny_isTrue_Compare1 (ev_two O Ha Hb ho S D exF_id fun b s' G D => wpAny_truthy_bool (D _ _ ⟨G, rfl⟩)) hm
theorem ev_ite {c a b : Expr} {p : Pos} {cc ca cb : Ex} (Tc : TrOk f c cc) (Ha : EvOk f a ca) (Hb : EvOk f b cb) : EvOk f (.IfExp c a b p) (.ite cc ca cb) := by
 intro oa σ s Q E S D
 refine IfExp_ (tr_d Tc S D exF_id fun t s₁ G₁ D => ?_)
 cases t with
 | true => exact Ha oa σ s₁ _ _ (S.grow G₁) (dn_mono D (fun v s' x t => ⟨G₁.trans t.1, t.2⟩) (exF_grow G₁))
 | false => exact Hb oa σ s₁ _ _ (S.grow G₁) (dn_mono D (fun v s' x t => ⟨G₁.trans t.1, t.2⟩) (exF_grow G₁))
theorem ite_test {r : Rs V} {a b : Rs V} : (r.bind fun x => (boolOf x).bind fun t => if t then a else b).bind boolOf = r.bind fun x => (boolOf x).bind fun t => if t then a.bind boolOf else b.bind boolOf := by
 rw [bind_assoc]; congr 1; funext x
 rw [bind_assoc]; congr 1; funext t
 cases t <;> rfl
theorem tr_ite {c a b : Expr} {p : Pos} {cc ca cb : Ex} (Tc : TrOk f c cc) (Ha : TrOk f a ca) (Hb : TrOk f b cb) : TrOk f (.IfExp c a b p) (.ite cc ca cb) := by
 intro oa σ s Q E S D
 have D : DB f s Q E (((ev f.cf σ cc).bind fun x => (boolOf x).bind fun t => if t then ev f.cf σ ca else ev f.cf σ cb).bind boolOf) := D
 rw [ite_test] at D
 refine isTrue_IfExp (tr_d Tc S D exF_id fun t s₁ G₁ D => ?_)
 cases t with
 | true => exact Ha oa σ s₁ _ _ (S.grow G₁) (dn_mono D (fun v s' x t => ⟨G₁.trans t.1, t.2⟩) (exF_grow G₁))
 | false => exact Hb oa σ s₁ _ _ (S.grow G₁) (dn_mono D (fun v s' x t => ⟨G₁.trans t.1, t.2⟩) (exF_grow G₁))
theorem RpAll.nil {oa : Option Addr} {h : Heap} : RpAll f oa h [] [] := ⟨[], .nil, fun _ hb => nomatch hb⟩
theorem RpAll.cons {oa : Option Addr} {h : Heap} {v : Value} {vs : List Value} {x : PyData} {xs : List PyData} (r : Rp f oa h v x) (q : RpAll f oa h vs xs) : RpAll f oa h (v :: vs) (x :: xs) := by
 obtain ⟨as, ra, ca⟩ := r
 obtain ⟨bs, rb, cb⟩ := q
 exact ⟨as ++ bs, .cons ra rb, fun b hb => (List.mem_append.mp hb).elim (ca b) (cb b)⟩
theorem evs_nil : EvsOk f [] .nil := fun oa pos σ s Q E S D => spliced_none (D _ _ ⟨Grow.refl _, RpAll.nil, rfl⟩)
theorem evs_cons {e : Expr} {l : List Expr} {c : Ex} {cs : Exs} (He : EvOk f e c) (Hl : EvsOk f l cs) (hs : starEach (e :: l) f.env = (false, eval e f.env) :: starEach l f.env) : EvsOk f (e :: l) (.cons c cs) := by
 intro oa pos σ s Q E S D
 exact spliced_more (ev_d He S D exF_id fun v s₁ x G₁ R D => evs_d Hl (S.grow G₁) D (exF_grow G₁) fun vs s₂ xs G₂ Rs' hl D => D _ _ ⟨G₁.trans G₂, RpAll.cons (R.stays G₂.stays) Rs', congrArg Nat.succ hl⟩) hs
theorem ev_tup {l : List Expr} {k : Nat} {p : Pos} {cs : Exs} (Hl : EvsOk f l cs) (hz : l.length <= 1000) : EvOk f (.Tuple l k p) (.tup cs) := by
 intro oa σ s Q E S D
 refine Tuple_ (evs_d Hl S D exF_id fun vs s₁ xs G₁ R hl D => ?_)
 obtain ⟨as, ra, ca⟩ := R
 have G₂ := Grow.push s₁ ({ cls := .type "tuple", data := .seq vs.toArray } : Obj)
 exact wpAny_newTuple (D _ _ ⟨G₁.trans G₂, as, .tuple (Heap.get?_push_size _ rfl) rfl rfl (ReadsAll.keeps G₂.stays ra), ca⟩) (by rw [hl]; exact Nat.le_trans hz (by decide))
theorem get_size (h : Heap) : h.get? h.objs.size = none := by
 cases hg : h.get? h.objs.size with
 | none => rfl
 | some o => exact absurd (Heap.lt_size hg) (Nat.lt_irrefl _)
theorem St.ns {oa : Option Addr} {σ : Sg} {h : Heap} (S : St f oa σ h) : ∃ m, h.Ns f.L m := let ⟨m, F, _⟩ := S; ⟨m, F.ns⟩
theorem St.oaOk {oa : Option Addr} {σ : Sg} {h : Heap} (S : St f oa σ h) : ∀ a, oa = some a -> ∃ its k, h.get? a = some ({ cls := .type "list", data := .seq its k } : Obj) := by
 obtain ⟨m, F, _, o⟩ := S
 intro a ha
 cases hw : σ.own with
 | none => rw [hw] at o; have o : oa = none := o; rw [o] at ha; cases ha
 | some xs =>
  rw [hw] at o
  obtain ⟨a', its, k, as, n, h1, h2, h3, h4, _⟩ := o
  rw [h1] at ha; cases ha
  exact ⟨its, k, h4⟩
theorem h0_of_new {oa : Option Addr} {σ : Sg} {h : Heap} {b : Addr} (S : St f oa σ h) (q : h.get? b = none) : f.h₀.get? b = none /\ oa ≠ some b /\ b ≠ f.L := by
 refine ⟨fresh_of_stays S.keep q, fun e => ?_, fun e => ?_⟩
 ·obtain ⟨its, k, g⟩ := S.oaOk b e
  rw [q] at g; cases g
 ·obtain ⟨m, oL, _, _, hL, _⟩ := S.ns
  rw [<- e, q] at hL
  cases hL
theorem good_new {oa : Option Addr} {σ : Sg} {s : Shared} (S : St f oa σ s.heap) {a : Addr} (ha : s.heap.get? a = none) : GoodA f oa a := by
 obtain ⟨h1, h2⟩ := h0_of_new S ha
 exact ⟨.inl h1, h2⟩
theorem rp_list {oa : Option Addr} {σ : Sg} {s : Shared} {vs : Array Value} {xs : List PyData} (S : St f oa σ s.heap) (R : RpAll f oa s.heap vs.toList xs) : Rp f oa (s.heap.push { cls := .type "list", data := .seq vs }) (.ref s.heap.objs.size) (.list xs) := by
 obtain ⟨as, ra, ca⟩ := R
 refine ⟨s.heap.objs.size :: as, .list (Heap.get?_push_size _ rfl) rfl rfl (ReadsAll.keeps (Grow.push s _).stays ra), fun b hb => ?_⟩
 rcases List.mem_cons.mp hb with rfl | hb
 ·exact good_new S (get_size _)
 ·exact ca b hb
theorem ev_lst {l : List Expr} {p : Pos} {cs : Exs} (Hl : EvsOk f l cs) (hz : l.length <= 1000) : EvOk f (.List l p) (.lst cs) := by
 intro oa σ s Q E S D
 refine List_ (evs_d Hl S D exF_id fun vs s₁ xs G₁ R hl D => ?_)
 exact wpAny_newList (D _ _ ⟨G₁.trans (Grow.push s₁ _), rp_list (S.grow G₁) R⟩) (by rw [hl]; exact Nat.le_trans hz (by decide))
end
section
variable {M : Model} {A : Around} {E : Value -> Shared -> Prop} {s : Shared}
theorem chain2 {pos : Pos} {a : Value} {o p : CmpOp} {tm tr : Sem Value} {Q : Value -> Shared -> Prop}
  (h : wpAny M A tm (fun b s₁ => wpAny M A (compareOp o a b) (fun c s₂ => wpAny M A (truthy c) (fun t s₃ => if t then wpAny M A tr (fun d s₄ => wpAny M A (compareOp p b d) Q E s₄) E s₃ else Q c s₃) E s₂) E s₁) E s) :
  wpAny M A (compareChain pos a [o, p] [tm, tr]) Q E s := by
 intro Γ q hΓ
 have e : compareChain pos a [o, p] [tm, tr] = (do
  let rv <- holding [a] tm
  standAt pos
  let c <- holding [a, rv] (compareOp o a rv)
  release [a, rv] [c]
  if <- holding [c, rv] (truthy c) then (do
   let rw <- holding [rv] tr
   standAt pos
   operate [rv, rw] (compareOp p rv rw)) else pure c) := rfl
 rw [e]
 simp only [Sem.wp_bind', Sem.wp_holding, Sem.wp_cmd_standAt, Sem.wp_release]
 refine Sem.wp_mono M Γ _ (fun b q₁ s₁ h₁ => ?_) (fun _ _ _ x => x) _ _ (h Γ q hΓ)
 refine Sem.wp_mono M Γ _ (fun c q₂ s₂ h₂ => ?_) (fun _ _ _ x => x) _ _ (h₁ Γ _ hΓ)
 refine Sem.wp_mono M Γ _ (fun t q₃ s₃ h₃ => ?_) (fun _ _ _ x => x) _ _ (h₂ Γ _ hΓ)
 cases t with
 | false => exact h₃
 | true =>
  simp only [if_true] at h₃ ⊢
  simp only [Sem.wp_bind', Sem.wp_holding, Sem.wp_cmd_standAt, Sem.wp_operate]
  exact Sem.wp_mono M Γ _ (fun d q₄ s₄ h₄ => h₄ Γ _ hΓ) (fun _ _ _ x => x) _ _ (h₃ Γ _ hΓ)
theorem test2 {pos : Pos} {a : Value} {o p : CmpOp} {tm tr : Sem Value} {Q : Bool -> Shared -> Prop}
  (h : wpAny M A tm (fun b s₁ => wpAny M A (compareOp o a b) (fun c s₂ => wpAny M A (truthy c) (fun t s₃ => if t then wpAny M A tr (fun d s₄ => wpAny M A (compareOp p b d) (fun c s₅ => wpAny M A (truthy c) Q E s₅) E s₄) E s₃ else Q false s₃) E s₂) E s₁) E s) :
  wpAny M A (testChain pos a [o, p] [tm, tr]) Q E s := by
 intro Γ q hΓ
 have e : testChain pos a [o, p] [tm, tr] = (do
  let rv <- holding [a] tm
  standAt pos
  let c <- holding [a, rv] (compareOp o a rv)
  release [a, rv] [c]
  if <- holding [c, rv] (truthy c) then (do
   let rw <- holding [rv] tr
   standAt pos
   let c <- operate [rv, rw] (compareOp p rv rw)
   holding [c] (truthy c)) else pure false) := rfl
 rw [e]
 simp only [Sem.wp_bind', Sem.wp_holding, Sem.wp_cmd_standAt, Sem.wp_release]
 refine Sem.wp_mono M Γ _ (fun b q₁ s₁ h₁ => ?_) (fun _ _ _ x => x) _ _ (h Γ q hΓ)
 refine Sem.wp_mono M Γ _ (fun c q₂ s₂ h₂ => ?_) (fun _ _ _ x => x) _ _ (h₁ Γ _ hΓ)
 refine Sem.wp_mono M Γ _ (fun t q₃ s₃ h₃ => ?_) (fun _ _ _ x => x) _ _ (h₂ Γ _ hΓ)
 cases t with
 | false => exact h₃
 | true =>
  simp only [if_true] at h₃ ⊢
  simp only [Sem.wp_bind', Sem.wp_holding, Sem.wp_cmd_standAt, Sem.wp_operate]
  refine Sem.wp_mono M Γ _ (fun d q₄ s₄ h₄ => ?_) (fun _ _ _ x => x) _ _ (h₃ Γ _ hΓ)
  exact Sem.wp_mono M Γ _ (fun c q₅ s₅ h₅ => h₅ Γ _ hΓ) (fun _ _ _ x => x) _ _ (h₄ Γ _ hΓ)
end
section
variable {f : Fm}
theorem tr_cmp2 {r q u : Rs V} {o p : Cp} : ((r.bind fun x => x.dat.bind fun x => q.bind fun y => y.dat.bind fun y => (cpD o x y).bind fun t => if t then u.bind fun z => z.dat.bind fun z => (cpD p y z).bind fun b => Rs.ok (V.d (.bool b)) else .ok (.d (.bool false))).bind boolOf) =
  r.bind fun x => x.dat.bind fun x => q.bind fun y => y.dat.bind fun y => (cpD o x y).bind fun t => if t then u.bind fun z => z.dat.bind fun z => (cpD p y z).bind .ok else .ok false := by
 rw [bind_assoc]; congr 1; funext x
 rw [bind_assoc]; congr 1; funext x
 rw [bind_assoc]; congr 1; funext y
 rw [bind_assoc]; congr 1; funext y
 rw [bind_assoc]; congr 1; funext t
 cases t with
 | false => rfl
 | true =>
  show (u.bind _).bind boolOf = _
  rw [bind_assoc]; congr 1; funext z
  rw [bind_assoc]; congr 1; funext z
  rw [bind_assoc]; rfl
theorem ev_three (O : f.Ok) {a b c : Expr} {o q : CmpOp} {o' q' : Cp} {ca cb cc : Ex} (Ha : EvOk f a ca) (Hb : EvOk f b cb) (Hc : EvOk f c cc) (ho : cpOf o = some o') (hq : cpOf q = some q')
  {α β : Type} {T : β -> Shared -> α -> Prop} {X : Value -> Shared -> Xc -> Prop} {Q : β -> Shared -> Prop} {E : Value -> Shared -> Prop} {oa : Option Addr} {σ : Sg} {s : Shared} {g : Bool -> Rs α} {K : Value -> Shared -> Prop} {R : Shared -> Prop} (S : St f oa σ s.heap)
  (D : Dn T X Q E ((ev f.cf σ ca).bind fun x => x.dat.bind fun x => (ev f.cf σ cb).bind fun y => y.dat.bind fun y => (cpD o' x y).bind fun t => if t then (ev f.cf σ cc).bind fun z => z.dat.bind fun z => (cpD q' y z).bind g else g false))
  (hX : ∀ e s' x, ExF f s e s' x -> X e s' x) (k : ∀ b s', Grow s s' -> Dn T X Q E (g b) -> K (.bool b) s') (kF : ∀ s', Grow s s' -> Dn T X Q E (g false) -> R s') :
  wpAny (Mw f.W.w) f.A (eval a f.env) (fun va s₀ => wpAny (Mw f.W.w) f.A (eval b f.env) (fun vb s₁ => wpAny (Mw f.W.w) f.A (compareOp o va vb) (fun c₁ s₂ => wpAny (Mw f.W.w) f.A (truthy c₁) (fun t s₃ =>
   if t then wpAny (Mw f.W.w) f.A (eval c f.env) (fun vd s₄ => wpAny (Mw f.W.w) f.A (compareOp q vb vd) K E s₄) E s₃ else c₁ = .bool false /\ R s₃) E s₂) E s₁) E s₀) E s := by
 rw [cpTo_of ho, cpTo_of hq]
 refine ev_d Ha S D hX fun va s₁ xa G₁ Ra D => ev_d Hb (S.grow G₁) D (fun e s' x h => hX e s' x (h.grow G₁)) fun vb s₂ xb G₂ Rb D => ?_
 have G := G₁.trans G₂
 obtain ⟨as, ra, _⟩ := Ra.stays G₂.stays
 obtain ⟨bs, rb, _⟩ := id Rb
 refine snd_cp O.A_units D ra rb fun r D => wpAny_truthy_bool ?_
 cases r with
 | false => exact ⟨rfl, kF s₂ G D⟩
 | true =>
  refine ev_d Hc (S.grow G) D (fun e s' x h => hX e s' x (h.grow G)) fun vc s₃ xc G₃ Rc D => ?_
  obtain ⟨bs, rb, _⟩ := Rb.stays G₃.stays
  obtain ⟨cs, rc, _⟩ := Rc
  exact snd_cp O.A_units D rb rc fun r D => k r s₃ (G.trans G₃) D
theorem ev_cmp2 (O : f.Ok) {a b c : Expr} {o q : CmpOp} {o' q' : Cp} {p : Pos} {ca cb cc : Ex} (Ha : EvOk f a ca) (Hb : EvOk f b cb) (Hc : EvOk f c cc) (ho : cpOf o = some o') (hq : cpOf q = some q') (hm : behindInMarks q c = false) :
  EvOk f (.Compare a [o, q] [b, c] p) (.cmp2 o' q' ca cb cc) /\ TrOk f (.Compare a [o, q] [b, c] p) (.cmp2 o' q' ca cb cc) := by
 refine ⟨fun oa σ s Q E S D => ?_, fun oa σ s Q E S D => ?_⟩
 ·refine Compare_chain (wpAny_mono (ev_three (g := fun b => Rs.ok (V.d (.bool b))) (K := Q) (R := Q (.bool false)) O Ha Hb Hc ho hq S D exF_id (fun b s' G D => D _ _ ⟨G, Rp.nil (.bool _)⟩) fun s' G D => D _ _ ⟨G, Rp.nil (.bool _)⟩)
   (fun va s₀ h₀ => chain2 (wpAny_mono h₀ (fun vb s₁ h₁ => wpAny_mono h₁ (fun c₁ s₂ h₂ => wpAny_mono h₂ (fun t s₃ h₃ => ?_) fun _ _ x => x) fun _ _ x => x) fun _ _ x => x)) fun _ _ x => x) (by show lastMarks [q] [c] = false; exact hm)
  cases t with
  | true => exact h₃
  | false => exact h₃.1 ▸ h₃.2
 ·have D : DB f s Q E (((ev f.cf σ ca).bind fun x => x.dat.bind fun x => (ev f.cf σ cb).bind fun y => y.dat.bind fun y => (cpD o' x y).bind fun t => if t then (ev f.cf σ cc).bind fun z => z.dat.bind fun z => (cpD q' y z).bind fun b => Rs.ok (V.d (.bool b)) else .ok (.d (.bool false))).bind boolOf) := D
  rw [tr_cmp2] at D
  refine isTrue_chain (wpAny_mono (ev_three (g := .ok) (K := fun c s => wpAny (Mw f.W.w) f.A (truthy c) Q E s) (R := Q false) O Ha Hb Hc ho hq S D exF_id (fun b s' G D => wpAny_truthy_bool (D _ _ ⟨G, rfl⟩)) fun s' G D => D _ _ ⟨G, rfl⟩)
   (fun va s₀ h₀ => test2 (wpAny_mono h₀ (fun vb s₁ h₁ => wpAny_mono h₁ (fun c₁ s₂ h₂ => wpAny_mono h₂ (fun t s₃ h₃ => ?_) fun _ _ x => x) fun _ _ x => x) fun _ _ x => x)) fun _ _ x => x) (by show lastMarks [q] [c] = false; exact hm)
  cases t with
  | true => exact h₃
  | false => exact h₃.2
theorem and_nil : BoOk f .And [] (fun _ => .ok true) := ⟨fun _ _ _ _ _ _ h => absurd rfl h, fun _ _ _ _ _ _ _ _ D => isTrue_and_nil (D true _ ⟨Grow.refl _, rfl⟩)⟩
theorem or_nil : BoOk f .Or [] (fun _ => .ok false) := ⟨fun _ _ _ _ _ _ h => absurd rfl h, fun _ _ _ _ _ _ _ _ D => isTrue_or_nil (D false _ ⟨Grow.refl _, rfl⟩)⟩
theorem and_cons {e : Expr} {l : List Expr} {c : Ex} {r : Sg -> Rs Bool} (He : EvOk f e c) (Te : TrOk f e c) (Hl : BoOk f .And l r) (hr : l = [] -> ∀ σ, r σ = .ok true) :
  BoOk f .And (e :: l) (fun σ => (ev f.cf σ c).bind fun x => (boolOf x).bind fun b => if b then r σ else .ok false) := by
 refine ⟨fun oa pos σ s Q E _ S D => ?_, fun oa pos whole σ s Q E S D => isTrue_and (tr_d Te S D exF_id fun b s₁ G D => ?_)⟩
 ·cases l with
  | nil =>
   refine BoolOp_one (ev_b He S D exF_id fun b s₁ G D => ?_)
   cases b with
   | false => exact D _ _ ⟨G, rfl⟩
   | true =>
    rw [if_pos rfl, hr rfl σ] at D
    exact D _ _ ⟨G, rfl⟩
  | cons e₂ l =>
   refine BoolOp_and (ev_b He S D exF_id fun b s₁ G D => wpAny_truthy_bool ?_)
   cases b with
   | false => exact D _ _ ⟨G, rfl⟩
   | true => exact Hl.1 oa pos σ s₁ Q E (List.cons_ne_nil _ _) (S.grow G) (dn_mono D (fun v s' x t => ⟨G.trans t.1, t.2⟩) (exF_grow G))
 ·cases b with
  | false => exact D _ _ ⟨G, rfl⟩
  | true => exact Hl.2 oa pos whole σ s₁ Q E (S.grow G) (dn_mono D (fun v s' x t => ⟨G.trans t.1, t.2⟩) (exF_grow G))
theorem or_cons {e : Expr} {l : List Expr} {c : Ex} {r : Sg -> Rs Bool} (He : EvOk f e c) (Te : TrOk f e c) (Hl : BoOk f .Or l r) (hr : l = [] -> ∀ σ, r σ = .ok false) :
  BoOk f .Or (e :: l) (fun σ => (ev f.cf σ c).bind fun x => (boolOf x).bind fun b => if b then .ok true else r σ) := by
 refine ⟨fun oa pos σ s Q E _ S D => ?_, fun oa pos whole σ s Q E S D => isTrue_or (tr_d Te S D exF_id fun b s₁ G D => ?_)⟩
 ·cases l with
  | nil =>
   refine BoolOp_one (ev_b He S D exF_id fun b s₁ G D => ?_)
   cases b with
   | true => exact D _ _ ⟨G, rfl⟩
   | false =>
    rw [if_neg (by decide), hr rfl σ] at D
    exact D _ _ ⟨G, rfl⟩
  | cons e₂ l =>
   refine BoolOp_or (ev_b He S D exF_id fun b s₁ G D => wpAny_truthy_bool ?_)
   cases b with
   | true => exact D _ _ ⟨G, rfl⟩
   | false => exact Hl.1 oa pos σ s₁ Q E (List.cons_ne_nil _ _) (S.grow G) (dn_mono D (fun v s' x t => ⟨G.trans t.1, t.2⟩) (exF_grow G))
 ·cases b with
  | true => exact D _ _ ⟨G, rfl⟩
  | false => exact Hl.2 oa pos whole σ s₁ Q E (S.grow G) (dn_mono D (fun v s' x t => ⟨G.trans t.1, t.2⟩) (exF_grow G))
theorem ev_bo {o : BoolOp} {l : List Expr} {r : Sg -> Rs Bool} {c : Ex} {p : Pos} (H : BoOk f o l r) (hne : l ≠ []) (hc : ∀ σ, ev f.cf σ c = (r σ).bind fun b => .ok (.d (.bool b))) : EvOk f (.BoolOp o l p) c /\ TrOk f (.BoolOp o l p) c := by
 refine ⟨fun oa σ s Q E S D => ?_, fun oa σ s Q E S D => ?_⟩
 ·rw [hc] at D
  exact H.1 oa p σ s Q E hne S (dn_bind D exF_id fun v s₁ b t D => D _ _ ⟨t.1, t.2 ▸ Rp.nil (.bool _)⟩)
 ·rw [hc, tr_val] at D
  exact H.2 oa p _ σ s Q E S D
end
section
variable {f : Fm}
theorem ev_idx {a i : Expr} {p : Pos} {ca ci : Ex} (Ha : EvOk f a ca) (Hi : EvOk f i ci) (hs : ∀ o j, subscripted i false o j = operate [o, j] (getItem o j)) : EvOk f (.Subscript a i p) (.idx ca ci) := by
 intro oa σ s Q E S D
 refine Subscript_ (ev_d Ha S D exF_id fun va s₁ xa G₁ Ra D => ev_d Hi (S.grow G₁) D (exF_grow G₁) fun vb s₂ xb G₂ Rb D => ?_)
 obtain ⟨as, ra, c⟩ := Ra.stays G₂.stays
 obtain ⟨bs, rb, _⟩ := Rb
 exact snd_idx D ra rb hs fun v s' r G R D => by
  obtain ⟨cs, R, k⟩ := R
  exact D _ _ ⟨(G₁.trans G₂).trans G, cs, R, fun b hb => c b (k b hb)⟩
section
variable {α β : Type} {T : β -> Shared -> α -> Prop} {X : Value -> Shared -> Xc -> Prop} {Q : β -> Shared -> Prop} {E : Value -> Shared -> Prop} {s : Shared}
theorem dn_end {y : PyData} {n : Nat} {g : Nat -> Rs α} {v : Value} {as : List Addr} (D : Dn T X Q E ((endOf n (some y)).bind g)) (r : Reads s.heap v y as) : ∃ (i : Nat) (t : Tok), v = .int i t /\ Dn T X Q E (g i) := by
 replace D := dn_of2 int_takes D
 obtain ⟨i, rfl, D⟩ := D
 obtain ⟨t, rfl⟩ := rd_int r
 replace D := dn_if2 D
 obtain ⟨h, D⟩ := D
 exact ⟨i.toNat, t, by rw [<- okN_eq h], D⟩
theorem dn_slice {x : PyData} {lo hi : Option PyData} {g : PyData -> Rs α} {v : Value} {as : List Addr} (D : Dn T X Q E ((sliceD x lo hi).bind g)) (r : Reads s.heap v x as) :
  ∃ y t, v = .str y t /\ y.cps.size <= big /\ Dn T X Q E ((endOf 0 lo).bind fun i => (endOf y.cps.size hi).bind fun j => g (.str (cutS y i j))) := by
 replace D := dn_of2 str_takes D
 obtain ⟨y, rfl, D⟩ := D
 obtain ⟨t, rfl⟩ := rd_str r
 replace D := dn_if2 D
 obtain ⟨hz, D⟩ := D
 refine ⟨y, t, rfl, hz, ?_⟩
 rw [bind_assoc] at D
 revert D
 cases endOf 0 lo with
 | ok i => show Dn T X Q E (((endOf y.cps.size hi).bind _).bind g) -> _; rw [bind_assoc]; exact id
 | _ => exact id
end
theorem ev_slSS {a l h : Expr} {p q : Pos} {ca cl ch : Ex} (Ha : EvOk f a ca) (Hl : EvOk f l cl) (Hh : EvOk f h ch) : EvOk f (.Subscript a (.Slice (some l) (some h) none q) p) (.slSS ca cl ch) := by
 intro oa σ s Q E S D
 refine Subscript_ (ev_d Ha S D exF_id fun va s₁ xa G₁ Ra D => wpAny_Slice (evalPart_some_step (ev_d Hl (S.grow G₁) D (exF_grow G₁) fun vl s₂ xl G₂ Rl D => evalPart_some_step (ev_d Hh (S.grow (G₁.trans G₂)) D (exF_grow (G₁.trans G₂)) fun vh s₃ xh G₃ Rh D => evalPart_none_step ?_))))
 obtain ⟨as, ra, _⟩ := Ra
 obtain ⟨bs, rl, _⟩ := Rl
 obtain ⟨cs, rh, _⟩ := Rh
 replace D := dn_slice D ra
 obtain ⟨y, t, rfl, hz, D⟩ := D
 replace D := dn_end D rl
 obtain ⟨i, u, rfl, D⟩ := D
 replace D := dn_end D rh
 obtain ⟨j, w, rfl, D⟩ := D
 refine tail_of_ItemOn (SBH.sliceItem_ss (keptStays s₃.heap) (fun _ _ e => e) (fun h' t' k st => ?_) (Nat.le_trans hz (by decide))) rfl temp_str
 rw [slice_nat]
 exact D _ _ ⟨((G₁.trans G₂).trans G₃).trans ⟨h', k, rfl, st⟩, Rp.nil (.str _ _)⟩
theorem ev_slSN {a l : Expr} {p q : Pos} {ca cl : Ex} (Ha : EvOk f a ca) (Hl : EvOk f l cl) : EvOk f (.Subscript a (.Slice (some l) none none q) p) (.slSN ca cl) := by
 intro oa σ s Q E S D
 refine Subscript_ (ev_d Ha S D exF_id fun va s₁ xa G₁ Ra D => wpAny_Slice (evalPart_some_step (ev_d Hl (S.grow G₁) D (exF_grow G₁) fun vl s₂ xl G₂ Rl D => evalPart_none_step (evalPart_none_step ?_))))
 obtain ⟨as, ra, _⟩ := Ra
 obtain ⟨bs, rl, _⟩ := Rl
 replace D := dn_slice D ra
 obtain ⟨y, t, rfl, hz, D⟩ := D
 replace D := dn_end D rl
 obtain ⟨i, u, rfl, D⟩ := D
 refine tail_of_ItemOn (SBH.sliceItem_sn (keptStays s₂.heap) (fun _ _ e => e) (fun h' t' k st => ?_) (Nat.le_trans hz (by decide))) rfl temp_str
 rw [slice_sn]
 exact D _ _ ⟨(G₁.trans G₂).trans ⟨h', k, rfl, st⟩, Rp.nil (.str _ _)⟩
theorem ev_slNS {a l : Expr} {p q : Pos} {ca cl : Ex} (Ha : EvOk f a ca) (Hl : EvOk f l cl) : EvOk f (.Subscript a (.Slice none (some l) none q) p) (.slNS ca cl) := by
 intro oa σ s Q E S D
 refine Subscript_ (ev_d Ha S D exF_id fun va s₁ xa G₁ Ra D => wpAny_Slice (evalPart_none_step (evalPart_some_step (ev_d Hl (S.grow G₁) D (exF_grow G₁) fun vl s₂ xl G₂ Rl D => evalPart_none_step ?_))))
 obtain ⟨as, ra, _⟩ := Ra
 obtain ⟨bs, rl, _⟩ := Rl
 replace D := dn_slice D ra
 obtain ⟨y, t, rfl, hz, D⟩ := D
 replace D := dn_end D rl
 obtain ⟨i, u, rfl, D⟩ := D
 refine tail_of_ItemOn (SBH.sliceItem_ns (keptStays s₂.heap) (fun _ _ e => e) (fun h' t' k st => ?_) (Nat.le_trans hz (by decide))) rfl temp_str
 rw [slice_ns]
 exact D _ _ ⟨(G₁.trans G₂).trans ⟨h', k, rfl, st⟩, Rp.nil (.str _ _)⟩
theorem fns_name (O : f.Ok) {x : Str} {i : Nat} (h : f.cfg.fns.findIdx? (· == x) = some i) : nameAt i = x := by
 rw [O.fns] at h
 obtain ⟨h1, h2, _⟩ := List.findIdx?_eq_some_iff_getElem.mp h
 unfold nameAt
 rw [List.getD_eq_getElem?_getD, List.getElem?_eq_getElem h1]
 exact beq_iff_eq.mp h2
theorem ev_call (O : f.Ok) {x : Str} {e₀ : Expr} {l : List Expr} {p q : Pos} {i : Nat} {cs : Exs} (Hl : EvsOk f (e₀ :: l) cs) (hx : x ∈ f.cfg.globs) (hi : f.cfg.fns.findIdx? (· == x) = some i)
  (hs : starEach (e₀ :: l) f.env = (false, eval e₀ f.env) :: starEach l f.env) : EvOk f (.Call (.Name x q) (e₀ :: l) [] p) (.call i cs) := by
 intro oa σ s Q E S D
 obtain ⟨m, F, _, _⟩ := id S
 obtain ⟨a, o, fd, g1, g2, g3⟩ := O.callee x hx i hi
 refine Call_ (ldgX F (O.wf.g.keeps O.below.stays) g1 ?_ O.kind (kind_glb O hx) (O.glb x hx).2) rfl
 refine callWith_def_at g2 g3 (evs_d Hl S D exF_id fun vs s₁ xs G R _ D => ?_) hs
 have S₁ := S.grow G
 have hR := O.hR S₁
 obtain ⟨as, ra, c⟩ := R
 refine ⟨hR _ _ g2, O.calls i xs f.A (f.env :: f.outer) s₁ a vs as _ _ O.A_handled O.depth O.units O.frames hR (O.funFrames S₁) (by rw [fns_name O hi]; exact g1) ra (dn_mono D (fun v s' r t => ⟨G.trans t.1, ?_⟩) (exF_grow G))⟩
 cases r with
 | d r =>
  obtain ⟨-, bs, rb, k⟩ := t
  refine ⟨bs, rb, fun b hb => ?_⟩
  rcases k b hb with q | q
  ·exact good_new S₁ q
  ·exact c b q
 | exc r =>
  obtain ⟨-, e, he, N⟩ := t
  exact ⟨e, he, N.weaken S₁.keep⟩
end
section
variable {f : Fm} {α β : Type} {T : β -> Shared -> α -> Prop} {X : Value -> Shared -> Xc -> Prop} {Q : β -> Shared -> Prop} {E : Value -> Shared -> Prop}
theorem dn_code {r : List PyData} {g : List Str -> Rs α} (D : Dn T X Q E ((codeD r).bind g)) : ∃ ls, codeD r = .ok ls /\ Dn T X Q E (g ls) := by
 cases r with
 | nil => exact ⟨_, rfl, D⟩
 | cons y r =>
  replace D := dn_if2 D
  obtain ⟨hr, D⟩ := D
  replace D := dn_of2 tup_takes D
  obtain ⟨l, rfl, D⟩ := D
  replace D := dn_some2 D
  obtain ⟨ls, hl, D⟩ := D
  refine ⟨ls, ?_, D⟩
  show (if r.isEmpty then Rs.opt (strsOf l) .ok else .stuck) = _
  rw [if_pos hr, hl]; rfl
theorem dn_raised {T : β -> Shared -> V -> Prop} {xs : List PyData} (D : Dn T X Q E (raisedD xs)) : ∃ x, raisedD xs = .ok (.exc x) /\ Dn T X Q E (.ok (.exc x)) := by
 cases xs with
 | nil => exact D.elim
 | cons i r =>
 cases r with
 | nil => exact D.elim
 | cons t r =>
 replace D := dn_of int_takes D
 obtain ⟨i, rfl, D⟩ := D
 replace D := dn_if D
 obtain ⟨rfl, D⟩ := D
 replace D := dn_of str_takes D
 obtain ⟨t, rfl, D⟩ := D
 replace D := dn_code D
 obtain ⟨ls, h, D⟩ := D
 refine ⟨⟨t, ls⟩, ?_, D⟩
 show (codeD r).bind _ = _
 rw [h]; rfl
theorem ev_raised (O : f.Ok') {e₀ : Expr} {l : List Expr} {p q : Pos} {cs : Exs} (Hl : EvsOk f (e₀ :: l) cs) (hx : ("Raised" : Str) ∈ f.cfg.globs)
  (hs : starEach (e₀ :: l) f.env = (false, eval e₀ f.env) :: starEach l f.env) (ha : ((backTo p (starEach l f.env)).any (·.1)) = false) : EvOk f (.Call (.Name "Raised" q) (e₀ :: l) [] p) (.raised cs) := by
 intro oa σ s Q E S D
 obtain ⟨m, F, _, _⟩ := id S
 refine Call_ (ldgX F (O.wf.g.keeps O.below.stays) O.cls.name ?_ O.kind (kind_glb O.toOk hx) (O.glb _ hx).2) rfl
 refine O.cls.with_ f.A f.env s p e₀ l _ _ (O.toOk.hR S) hs ha (evs_d Hl S D exF_id fun vs s₁ xs G R _ D => ?_)
 have S₁ := S.grow G
 obtain ⟨as, ra, c⟩ := R
 replace D := dn_raised D
 obtain ⟨z, hr, D⟩ := D
 refine ⟨O.toOk.hR S₁, O.cls.call f.A (f.env :: f.outer) s₁ vs as xs z _ _ O.toOk.A_handled ?_ ?_ O.toOk.frames (O.toOk.hR S₁) ra hr fun e s' G' N => D _ _ ⟨G.trans G', e, rfl, N.weaken S₁.keep⟩⟩
 ·have := O.depth
  show f.A₀.depth + 1 + 3 < recursionLimit
  lia
 ·have := O.units
  show f.A₀.units + 3 + 80 < cLine
  lia
theorem bi_back {a : Expr} {ca : Ex} {p : Pos} {id : String} {oa : Option Addr} {σ : Sg} {s : Shared} {g : PyData -> Rs V} {K : Value -> Shared -> Prop} {E : Value -> Shared -> Prop} (Ha : EvOk f a ca) (hs : starEach [a] f.env = (false, eval a f.env) :: starEach [] f.env) (S : St f oa σ s.heap)
  (D : DV f oa s K E ((ev f.cf σ ca).bind fun x => x.dat.bind g)) (h : ∀ v s₁ xa as, Grow s s₁ -> Reads s₁.heap v xa as -> DV f oa s K E (g xa) -> wpAny (Mw f.W.w) f.A (PySem.call (.builtin id) [v]) K E s₁) :
  wpAny (Mw f.W.w) f.A (callWith p (.builtin id) [] (backTo p (starEach [a] f.env)) []) K E s := by
 exact PyProof.Rows.callWith_builtin1 (spliced_more (ev_d Ha S D exF_id fun v s₁ x G R D => spliced_none (let ⟨as, ra, _⟩ := R; h v s₁ x as G ra D)) hs) hs rfl
theorem len_takes (x : PyData) : (∃ y, x = .str y /\ lenD x = .ok y.cps.size) \/ (∃ l, x = .tuple l /\ lenD x = .ok l.length) \/ (∃ l, x = .list l /\ lenD x = .ok l.length) \/ lenD x = .stuck := by
 cases x with
 | str y => exact .inl ⟨y, rfl, rfl⟩
 | tuple l => exact .inr (.inl ⟨l, rfl, rfl⟩)
 | list l => exact .inr (.inr (.inl ⟨l, rfl, rfl⟩))
 | _ => exact .inr (.inr (.inr rfl))
theorem snd_len {x : PyData} {v : Value} {as : List Addr} {w : World} {A : Around} {s : Shared} {E' : Value -> Shared -> Prop} {g : PyData -> Rs α} {K : Value -> Shared -> Prop} (D : Dn T X Q E ((biD .len x).bind g)) (r : Reads s.heap v x as)
  (k : ∀ v s' r, Grow s s' -> Reads s'.heap v r [] -> Dn T X Q E (g r) -> K v s') : wpAny (Mw w) A (PySem.call (.builtin "len") [v]) K E' s := by
 have D : Dn T X Q E (((lenD x).bind fun n => if n <= big then Rs.ok (PyData.int n) else .stuck).bind g) := D
 rcases len_takes x with ⟨y, rfl, h⟩ | ⟨l, rfl, h⟩ | ⟨l, rfl, h⟩ | h
 ·rw [h] at D
  replace D := dn_if2 D
  obtain ⟨hz, D⟩ := D
  obtain ⟨t, rfl⟩ := rd_str r
  exact PyProof.Rows.len_str (by have : y.length <= 1048576 := hz; lia) (k _ _ _ (Grow.tok _ _) (.int _ _) D)
 ·rw [h] at D
  replace D := dn_if2 D
  obtain ⟨hz, D⟩ := D
  obtain ⟨a, vs, rfl, ht, hr⟩ := rd_tup r
  have e : vs.size = l.length := by rw [<- reads_len hr]; simp
  rw [<- e] at D hz
  exact PyProof.Rows.len_tuple ht (by have : vs.size <= 1048576 := hz; lia) (k _ _ _ (Grow.tok _ _) (.int _ _) D)
 ·rw [h] at D
  replace D := dn_if2 D
  obtain ⟨hz, D⟩ := D
  obtain ⟨a, vs, bs, rfl, ht, hr, -⟩ := rd_list r
  have e : vs.size = l.length := by rw [<- reads_len hr]; simp
  rw [<- e] at D hz
  exact PyProof.Rows.len_list ht (by have : vs.size <= 1048576 := hz; lia) (k _ _ _ (Grow.tok _ _) (.int _ _) D)
 ·rw [h] at D; exact D.elim
theorem snd_ord {x : PyData} {v : Value} {as : List Addr} {w : World} {A : Around} {s : Shared} {E' : Value -> Shared -> Prop} {g : PyData -> Rs α} {K : Value -> Shared -> Prop} (D : Dn T X Q E ((biD .ord x).bind g)) (r : Reads s.heap v x as)
  (k : ∀ v s' r, Grow s s' -> Reads s'.heap v r [] -> Dn T X Q E (g r) -> K v s') : wpAny (Mw w) A (PySem.call (.builtin "ord") [v]) K E' s := by
 replace D := dn_of2 str_takes D
 obtain ⟨y, rfl, D⟩ := D
 replace D := dn_some2 D
 obtain ⟨c, hc, D⟩ := D
 obtain ⟨t, rfl⟩ := rd_str r
 rw [one_of hc]
 exact P.ord_of_char (k _ _ _ (Grow.tok _ _) (.int _ _) D)
theorem ev_bi (O : f.Ok) {x : Str} {a : Expr} {p q : Pos} {b : Bi} {ca : Ex} (Ha : EvOk f a ca) (hx : x ∈ f.cfg.globs) (hb : biOf x = some b)
  (hs : starEach [a] f.env = (false, eval a f.env) :: starEach [] f.env) : EvOk f (.Call (.Name x q) [a] [] p) (.bi b ca) := by
 intro oa σ s Q E S D
 obtain ⟨m, F, _, _⟩ := id S
 have hg := O.wf.g.keeps O.below.stays
 have hbb := O.wf.b.keeps O.below.stays
 have hxn : x = "len" /\ b = .len \/ x = "ord" /\ b = .ord := by
  unfold biOf at hb
  by_cases h1 : (x == ("len" : Str)) = true
  ·rw [if_pos h1] at hb; cases hb; exact .inl ⟨beq_iff_eq.mp h1, rfl⟩
  ·rw [if_neg h1] at hb
   by_cases h2 : (x == ("ord" : Str)) = true
   ·rw [if_pos h2] at hb; cases hb; exact .inr ⟨beq_iff_eq.mp h2, rfl⟩
   ·rw [if_neg h2] at hb; cases hb
 rcases hxn with ⟨rfl, rfl⟩ | ⟨rfl, rfl⟩
 ·exact Call_ (ldbX F hg O.wf.len.1 hbb O.wf.len.2 (bi_back Ha hs S D fun v s₁ xa as G r D => snd_len D r fun v s' r G' R D => D _ _ ⟨G.trans G', Rp.nil R⟩) O.kind (kind_glb O hx) (O.glb _ hx).2) rfl
 ·exact Call_ (ldbX F hg O.wf.ord.1 hbb O.wf.ord.2 (bi_back Ha hs S D fun v s₁ xa as G r D => snd_ord D r fun v s' r G' R D => D _ _ ⟨G.trans G', Rp.nil R⟩) O.kind (kind_glb O hx) (O.glb _ hx).2) rfl
end
theorem meth_he {o : Expr} {name : Str} {apos pos : Pos} {args : List Expr} {env : Env} (hc : isCall o = false) (hp : (apos.endLine == pos.line) = true) (hl : args.length < 20)
  (hs : ((backTo pos (starEach args env)).any (·.1)) = false) :
  eval (.Call (.Attribute o name apos) args [] pos) env = (do
   let ov <- eval o env
   standAt apos.atName
   let (f, first) <- holding [ov] (getMethod ov name (do return (<- importBound o env).getD true))
   callWith pos f first (backTo pos (starEach args env)) []) := by
 have e1 : eval (.Call (.Attribute o name apos) args [] pos) env = (do
   let ov <- attributeBase o name env (eval o env)
   standAt apos.atName
   methodCall o name apos pos env ov (args.length + 0) (backTo pos (starEach args env)) (backToKw pos (keywordEach [] env))) := rfl
 have e2 : attributeBase o name env (eval o env) = eval o env := by
  cases o <;> first | rfl | cases hc
 have e3 : methodCallForm (args.length + 0) (backTo pos (starEach args env)) (backToKw pos (keywordEach [] env)) = true := by
  unfold methodCallForm
  have h1 : (backTo pos (starEach args env)).all (fun x => !x.1) = true := by
   rw [List.all_eq_not_any_not]
   simp only [Bool.not_not]
   rw [hs]; rfl
  rw [h1]
  show (true && true && decide (args.length + 0 + 0 < 30)) = true
  simp
  lia
 rw [e1, e2]
 congr 1
 funext ov
 congr 1
 funext _
 unfold methodCall
 rw [e3]
 rw [show methodCallPos true o env apos pos = pure pos from if_pos (show (!true || apos.endLine == pos.line) = true by rw [hp]; rfl)]
 rfl
theorem meName_of {m : Str} {m' : Me} (h : meOf m = some m') : m = meName m' := by
 have go : ∀ {x : Str} {y : Me} {r : Option Me}, (if m == x then some y else r) = some m' -> meName y = x -> m = meName m' \/ r = some m' := by
  intro x y r h e
  by_cases q : (m == x) = true
  ·rw [if_pos q] at h; cases h; rw [e]; exact .inl (beq_iff_eq.mp q)
  ·rw [if_neg q] at h; exact .inr h
 rcases go h rfl with h | h
 ·exact h
 rcases go h rfl with h | h
 ·exact h
 rcases go h rfl with h | h
 ·exact h
 rcases go h rfl with h | h
 ·exact h
 rcases go h rfl with h | h
 ·exact h
 rcases go h rfl with h | h
 ·exact h
 ·cases h
theorem okM_all {o : Expr} {ap p : Pos} {l : List Expr} (h : okM o ap p l = true) : isCall o = false /\ (ap.endLine == p.line) = true /\ l.length < 20 := by
 unfold okM at h
 rw [Bool.and_eq_true, Bool.and_eq_true, Bool.not_eq_true', decide_eq_true_eq] at h
 exact ⟨h.1.1, h.1.2, h.2⟩
section
variable {f : Fm}
theorem spl_of {l : List Expr} {cs : Exs} {n : Nat} (hc : cEs f.cfg n l = some cs) {α β : Type} {T : β -> Shared -> α -> Prop} {X : Value -> Shared -> Xc -> Prop} {Q : β -> Shared -> Prop} {E : Value -> Shared -> Prop} {K : Value -> Shared -> Prop} {g : List PyData -> Rs α} {oa : Option Addr} {p : Pos} {σ : Sg} {s : Shared} {id : String} {first : List Value} (Hl : EvsOk f l cs) (S : St f oa σ s.heap)
  (D : Dn T X Q E ((evs f.cf σ cs).bind g)) (hX : ∀ e s' x, ExF f s e s' x -> X e s' x)
  (k : ∀ vs s' xs, Grow s s' -> RpAll f oa s'.heap vs xs -> Dn T X Q E (g xs) -> wpAny (Mw f.W.w) f.A (PySem.call (.builtin id) (first ++ vs)) K E s') :
  wpAny (Mw f.W.w) f.A (callWith p (.builtin id) first (backTo p (starEach l f.env)) []) K E s := by
 cases l with
 | nil =>
  have := cEs_nil hc
  subst this
  have := k [] s [] (Grow.refl _) RpAll.nil D
  rw [List.append_nil] at this
  exact callWith_method0 this
 | cons e l =>
  obtain ⟨m, a, b, rfl, h1, h2, rfl⟩ := cEs_cons hc
  exact callWith_method1 (evs_d Hl S D hX fun vs s' xs G R _ D => k vs s' xs G R D) ((kd h1).star _ _) (cEs_any h2)
theorem ev_me (O : f.Ok) {o : Expr} {m : Str} {m' : Me} {ap p : Pos} {l : List Expr} {n : Nat} {co : Ex} {cs : Exs} (Ho : EvOk f o co) (Hl : EvsOk f l cs) (hm : meOf m = some m') (hk : okM o ap p l = true) (hc : cEs f.cfg n l = some cs) :
  EvOk f (.Call (.Attribute o m ap) l [] p) (.me m' co cs) := by
 intro oa σ s Q E S D
 obtain ⟨k1, k2, k3⟩ := okM_all hk
 rw [meName_of hm]
 refine MethodCall_ (ev_d Ho S D exF_id fun vo s₁ xo G₁ Ro D => ?_) (meth_he k1 k2 k3 (cEs_any hc))
 replace D := dn_of str_takes D
 obtain ⟨x, rfl, D⟩ := D
 obtain ⟨as, ra, c⟩ := Ro
 obtain ⟨t, rfl⟩ := rd_str ra
 exact me_get (spl_of hc Hl (S.grow G₁) D (exF_grow G₁) fun vs s₂ xs G₂ R D => let ⟨bs, rb, _⟩ := R; snd_me D rb fun v s' r G R D => D _ _ ⟨(G₁.trans G₂).trans G, Rp.nil R⟩)
theorem own_list {oa : Option Addr} {σ : Sg} {h : Heap} {xs : List PyData} (S : St f oa σ h) (e : σ.own = some xs) :
  ∃ m a its k as n, Fr f.h₀ f.L h m /\ oa = some a /\ f.cfg.own = some n /\ m n = some (.ref a) /\ h.get? a = some ({ cls := .type "list", data := .seq its k } : Obj) /\ f.h₀.get? a = none /\ a ≠ f.L /\
   ReadsAll h its.toList xs as /\ ∀ b ∈ as, GoodA f oa b := by
 obtain ⟨m, F, _, o⟩ := S
 rw [e] at o
 obtain ⟨a, its, kk, as, n, h⟩ := o
 exact ⟨m, a, its, kk, as, n, F, h⟩
theorem ld_own (O : f.Ok) {x : Str} {p : Pos} {oa : Option Addr} {σ : Sg} {s : Shared} {xs : List PyData} {Q E : Value -> Shared -> Prop} (S : St f oa σ s.heap) (e : σ.own = some xs) (hx : f.cfg.own = some x)
  (h : ∀ a its k as, oa = some a -> s.heap.get? a = some ({ cls := .type "list", data := .seq its k } : Obj) -> f.h₀.get? a = none -> ReadsAll s.heap its.toList xs as -> (∀ b ∈ as, GoodA f oa b) -> Q (.ref a) s) :
  wpAny (Mw f.W.w) f.A (eval (.Name x p) f.env) Q E s := by
 obtain ⟨m, a, its, k, as, n, F, h1, h2, h3, h4, h5, h6, h7, h8⟩ := own_list S e
 rw [hx] at h2
 cases h2
 have hm := O.own x hx
 exact ldX F h3 (h a its k as h1 h4 h5 h7 h8) O.kind (kind_loc O hm) (O.loc x hm).2
theorem ev_ownTup (O : f.Ok) {a : Expr} {p q : Pos} (ha : isOwn f.cfg a = true) (hx : ("tuple" : Str) ∈ f.cfg.globs) : EvOk f (.Call (.Name "tuple" q) [a] [] p) .ownTup := by
 intro oa σ s Q E S D
 replace D := dn_some D
 obtain ⟨xs, e, D⟩ := D
 replace D := dn_if D
 obtain ⟨hz, D⟩ := D
 obtain ⟨x, p', rfl, hown⟩ := isOwn_name ha
 obtain ⟨m, F, _, _⟩ := id S
 refine Call_ (ldbX F (O.wf.g.keeps O.below.stays) O.wf.tuple.1 (O.wf.b.keeps O.below.stays) O.wf.tuple.2 ?_ O.kind (kind_glb O hx) (O.glb _ hx).2) rfl
 refine PyProof.Rows.callWith_type1 (spliced_more (ld_own O S e hown fun a its k as h1 h2 h3 h4 h5 => spliced_none ?_) rfl) rfl rfl
 have hsz : its.size = xs.length := by rw [<- reads_len h4]; simp
 exact call_tuple_list ⟨_, h2, rfl, k, rfl⟩ (fun h' st => D _ _ ⟨⟨_, s.toks, rfl, fun b o q => Heap.get?_push_of_some _ (st b o q)⟩, as, .tuple (Heap.get?_push_size _ rfl) rfl rfl (ReadsAll.keeps (fun b o q => Heap.get?_push_of_some _ (st b o q)) h4), h5⟩) (by rw [hsz]; exact Nat.le_trans hz (by decide))
theorem ownSome_two (O : f.Ok) {a b : Expr} (ha : isOwn f.cfg a = true) (hb : isNil b = true) {oa : Option Addr} {σ : Sg} {s : Shared} {K E : Value -> Shared -> Prop} {xs : List PyData} (S : St f oa σ s.heap) (e : σ.own = some xs)
  (k : ∀ s', Grow s s' -> K (.bool (!xs.isEmpty)) s') :
  wpAny (Mw f.W.w) f.A (eval a f.env) (fun va s₁ => wpAny (Mw f.W.w) f.A (eval b f.env) (fun vb s₂ => wpAny (Mw f.W.w) f.A (compareOp .NotEq va vb) K E s₂) E s₁) E s := by
 obtain ⟨x, p', rfl, hown⟩ := isOwn_name ha
 obtain ⟨q, rfl⟩ := isNil_list hb
 refine ld_own O S e hown fun a its kk as h1 h2 h3 h4 h5 => List_ (spliced_none (wpAny_newList ?_ (by decide)))
 have hsz : its.size = xs.length := by rw [<- reads_len h4]; simp
 have G := Grow.push s ({ cls := .type "list", data := .seq ([] : List Value).toArray } : Obj)
 have hl : ({ s with heap := s.heap.push { cls := .type "list", data := .seq ([] : List Value).toArray } } : Shared).heap.IsList a its := ⟨_, G.stays _ _ h2, rfl, kk, rfl⟩
 have hn' : ({ s with heap := s.heap.push { cls := .type "list", data := .seq ([] : List Value).toArray } } : Shared).heap.IsList s.heap.objs.size #[] := ⟨_, Heap.get?_push_size _ rfl, rfl, 0, rfl⟩
 have hu : f.A.units + 1 < cLine := Nat.lt_of_le_of_lt (Nat.add_le_add_left (by decide) _) O.A_units
 cases xs with
 | nil =>
  have : its = #[] := Array.eq_empty_of_size_eq_zero hsz
  subst this
  exact cmp_ofNotEq ((SeqAt.RcNeAt.lists (A := f.A) (e := fun _ => true) hl hn' rfl (by lia) (fun j h1 => absurd h1 (Nat.not_lt_zero _))) _ _ _ _ (k _ G))
 | cons y ys =>
  refine cmp_ofNotEq ((SeqAt.RcNeAt.lists_lengths (A := f.A) hl hn' ?_ (by lia)) _ _ _ _ (k _ G))
  rw [hsz]
  rfl
theorem ev_ownSome (O : f.Ok) {a b : Expr} {p : Pos} (ha : isOwn f.cfg a = true) (hb : isNil b = true) : EvOk f (.Compare a [.NotEq] [b] p) .ownSome /\ TrOk f (.Compare a [.NotEq] [b] p) .ownSome := by
 have hm : behindInMarks .NotEq b = false := by obtain ⟨q, rfl⟩ := isNil_list hb; rfl
 refine ⟨fun oa σ s Q E S D => ?_, fun oa σ s Q E S D => ?_⟩
 ·replace D := dn_some D
  obtain ⟨xs, e, D⟩ := D
  exact wpAny_Compare1 (ownSome_two O ha hb S e fun s' G => D _ _ ⟨G, Rp.nil (.bool _)⟩) hm
 ·replace D := dn_some2 D
  obtain ⟨xs, e, D⟩ := D
  exact wpAny_isTrue_Compare1 (ownSome_two O ha hb S e fun s' G => wpAny_truthy_bool (D _ _ ⟨G, rfl⟩)) hm
theorem ev_ownLast (O : f.Ok) {a b : Expr} {p : Pos} (ha : isOwn f.cfg a = true) (hb : isM1 b = true) : EvOk f (.Subscript a b p) .ownLast := by
 intro oa σ s Q E S D
 replace D := dn_some D
 obtain ⟨xs, e, D⟩ := D
 replace D := dn_some D
 obtain ⟨y, hl, D⟩ := D
 obtain ⟨x, p', rfl, hown⟩ := isOwn_name ha
 obtain ⟨k, p₁, p₂, rfl⟩ := isM1_eq hb
 refine Subscript_ (ld_own O S e hown fun a its kk as h1 h2 h3 h4 h5 => UnaryOp_ (wpAny_Constant_int (PyProof.Rows.neg_int ?_)))
 have hsz : its.size = xs.length := by rw [<- reads_len h4]; simp
 rw [List.getLast?_eq_getElem?] at hl
 obtain ⟨v, bs, g1, g2, g3⟩ := reads_get h4 hl
 have hpos : xs.length - 1 < xs.length := (List.getElem?_eq_some_iff.mp hl).1
 have hL : ({ s with toks := s.toks + 1 + 1 } : Shared).heap.IsList a its := ⟨_, h2, rfl, kk, rfl⟩
 refine tail_any hL.typeIs slot_list_getitem.lookup (wpAny_getItem_list_neg hL (by decide) (neg_le1 (by rw [hsz]; exact Nat.lt_of_le_of_lt (Nat.zero_le _) hpos)) (by decide) ?_ (D v _ ⟨Grow.tok s (s.toks + 1 + 1), bs, g2, fun b hb => h5 b (g3 b hb)⟩)) rfl
 rw [last_ix, hsz]
 simpa using g1
theorem sys_ne (O : f.Ok) {oa : Option Addr} {σ : Sg} {h : Heap} (S : St f oa σ h) : (h.objs.size == sysModules) = false := by
 obtain ⟨o, es, ep, ho, _⟩ := O.wf.g
 have h1 := Heap.lt_size (O.hR S _ _ ho)
 have e1 : mainGlobals = 3 := rfl
 have e2 : sysModules = 1 := rfl
 rw [e1] at h1
 rw [e2]
 rw [beq_eq_false_iff_ne]
 exact Nat.ne_of_gt (Nat.lt_trans (by decide : 1 < 3) h1)
theorem two_map {a b : Str} (hab : ¬a = b) {u v d : Value} (c : Str) : (valueAt (merged [] [(a, u), (b, v)]) c).getD d = if c = a then u else if c = b then v else d := by
 have e1 : merged [] [(a, u), (b, v)] = [(a, u), (b, v)] := by simp [merged, stored, hab]
 rw [e1]
 unfold valueAt
 simp only [List.find?_cons, List.find?_nil]
 by_cases h1 : c = a
 ·subst h1; simp
 ·have q1 : ¬ (a = c) := fun q => h1 q.symm
  by_cases h2 : c = b
  ·subst h2
   simp [h1, q1]
  ·have q2 : ¬ (b = c) := fun q => h2 q.symm
   simp [q1, q2, h1, h2]
theorem pick_int {h : Heap} {P Q : Prop} [Decidable P] [Decidable Q] {i j d : Int} {ti tj td : Tok} : Reads h (if P then .int i ti else if Q then .int j tj else .int d td) (.int (if P then i else if Q then j else d)) [] := by
 by_cases h1 : P
 ·rw [if_pos h1, if_pos h1]; exact .int _ _
 ·rw [if_neg h1, if_neg h1]
  by_cases h2 : Q
  ·rw [if_pos h2, if_pos h2]; exact .int _ _
  ·rw [if_neg h2, if_neg h2]; exact .int _ _
theorem dn_dget {β : Type} {T : β -> Shared -> V -> Prop} {X : Value -> Shared -> Xc -> Prop} {Q : β -> Shared -> Prop} {E : Value -> Shared -> Prop} {a b : Str} {xk xx xy xd : PyData} {vk vx vy vd : Value} {hk hx hy hd : Heap} {ak ax ay ad : List Addr}
  (D : Dn T X Q E ((strD xk).bind fun k => (intD xx).bind fun x => (intD xy).bind fun y => (intD xd).bind fun d => if a = b then .stuck else .ok (.d (.int (if k = a then x else if k = b then y else d)))))
  (rk : Reads hk vk xk ak) (rx : Reads hx vx xx ax) (ry : Reads hy vy xy ay) (rd : Reads hd vd xd ad) :
  ∃ kk tk, vk = .str kk tk /\ ∃ n, Dn T X Q E (.ok (.d (.int n))) /\ ∀ h, Reads h ((valueAt (merged [] [(a, vx), (b, vy)]) kk).getD vd) (.int n) [] := by
 replace D := dn_of str_takes D
 obtain ⟨kk, rfl, D⟩ := D
 replace D := dn_of int_takes D
 obtain ⟨ix, rfl, D⟩ := D
 replace D := dn_of int_takes D
 obtain ⟨iy, rfl, D⟩ := D
 replace D := dn_of int_takes D
 obtain ⟨i, rfl, D⟩ := D
 obtain ⟨tk, rfl⟩ := rd_str rk
 obtain ⟨td, rfl⟩ := rd_int rd
 obtain ⟨tx, rfl⟩ := rd_int rx
 obtain ⟨ty, rfl⟩ := rd_int ry
 by_cases hab : a = b
 ·rw [if_pos hab] at D; exact D.elim
 ·rw [if_neg hab] at D
  exact ⟨kk, tk, rfl, _, D, fun h => by rw [two_map hab]; exact pick_int⟩
theorem ev_dget (O : f.Ok) {a b : Str} {k₁ k₂ : Nat} {p₁ p₂ dp ap p : Pos} {x y k d : Expr} {cx cy ck cd : Ex} (Hx : EvOk f x cx) (Hy : EvOk f y cy) (Hk : EvOk f k ck) (Hd : EvOk f d cd)
  (hk : okM (.Dict [some (.Constant (.str a) k₁ p₁), some (.Constant (.str b) k₂ p₂)] [x, y] dp) ap p [k, d] = true) (hs : ∀ env, starEach [k, d] env = [(false, eval k env), (false, eval d env)]) :
  EvOk f (.Call (.Attribute (.Dict [some (.Constant (.str a) k₁ p₁), some (.Constant (.str b) k₂ p₂)] [x, y] dp) "get" ap) [k, d] [] p) (.dget a cx b cy ck cd) := by
 intro oa σ s Q E S D
 obtain ⟨k1, k2, k3⟩ := okM_all hk
 refine MethodCall_ ?_ (meth_he rfl k2 k3 (by rw [hs]; rfl))
 refine wpAny_Dict_pairs (knd := strKind PySem.Challenge.pw_oj0060_01 f.W.w) (pairs := [(eval (.Constant (.str a) k₁ p₁) f.env, do let x <- eval x f.env; standAt dp; pure x), (eval (.Constant (.str b) k₂ p₂) f.env, do let x <- eval y f.env; standAt dp; pure x)]) rfl (by simp) (Nat.le_of_ble_eq_true rfl) ?_
 have G₀ := Grow.push s ({ cls := .type "dict", data := .dict #[] } : Obj)
 have D₀ : (s.heap.push ({ cls := .type "dict", data := .dict #[] } : Obj)).DictOf (strKind PySem.Challenge.pw_oj0060_01 f.W.w) s.heap.objs.size [] := Heap.DictOf.new s.heap
 refine evalPairs_cons (wpAny_Constant_str ?_)
 have G₁ := G₀.trans (Grow.tok _ (s.toks + 1))
 refine wpAny_bind (ev_d Hx (S.grow G₁) D (exF_grow G₁) fun vx s₂ xx G₂ Rx D => wpAny_bind (wpAny_standAt (wpAny_pure (evalPairs_cons (wpAny_Constant_str ?_)))))
 have G₃ := (G₁.trans G₂).trans (Grow.tok _ (s₂.toks + 1))
 refine wpAny_bind (ev_d Hy (S.grow G₃) D (exF_grow G₃) fun vy s₄ xy G₄ Ry D => wpAny_bind (wpAny_standAt (wpAny_pure (evalPairs_nil ?_))))
 have G₄' := G₃.trans G₄
 refine ⟨[(a, vx), (b, vy)], ⟨strKind_is _ _ _ _, rfl, strKind_is _ _ _ _, rfl, trivial⟩, D₀.keep fun b o q => G₄.stays b o (G₂.stays b o q), fun h' hD hsb => ?_⟩
 have Gd : Grow s { s₄ with heap := h', toks := s₄.toks + 2 } := by
  have st : s.heap.StaysIn h' := fun b o q => (hsb.2 b (Nat.ne_of_lt (Heap.lt_size q))).trans (G₄'.stays b o q)
  obtain ⟨h₄, t₄, rfl, _⟩ := G₄'
  exact ⟨h', _, rfl, st⟩
 refine getMethod_builtin hD.typeIs PySem.F.plainAttrs_dict PySem.F.slot_dict_get PySem.F.type_dict_get hD.mapOf.noDict ?_
 dsimp only
 rw [hs]
 refine wpAny_dict_get2 (knd := strKind PySem.Challenge.pw_oj0060_01 f.W.w) (sys_ne O S) (ev_d Hk (S.grow Gd) D (exF_grow Gd) fun vk s₅ xk G₅ Rk D => ev_d Hd (S.grow (Gd.trans G₅)) D (exF_grow (Gd.trans G₅)) fun vd s₆ xd G₆ Rd D => ?_)
 have G := (Gd.trans G₅).trans (G₆.trans (Grow.tok _ (s₆.toks + 1)))
 obtain ⟨_, rk, -⟩ := Rk
 obtain ⟨_, rd, -⟩ := Rd
 obtain ⟨_, rx, -⟩ := Rx
 obtain ⟨_, ry, -⟩ := Ry
 obtain ⟨kk, tk, e, n, D, R⟩ := dn_dget D rk rx ry rd
 exact ⟨kk, _, e ▸ strKind_is _ _ _ _, (hD.keep (fun b o q => G₆.stays b o (G₅.stays b o q))).mapOf, D _ _ ⟨G, Rp.nil (R _)⟩⟩
end
theorem cat_join : ∀ (ls : List Str), (Txt.join (⟨#[]⟩ : Str) ls) = catS ls := by
 intro ls
 unfold Txt.join
 rw [StrLaws.glued_eq_join]
 have e : ∀ a b : Str, (a ++ b).cps = a.cps ++ b.cps := fun _ _ => rfl
 induction ls with
 | nil => rfl
 | cons x r ih =>
  cases r with
  | nil =>
   show x = catS [x]
   unfold catS
   cases x
   simp
  | cons y r =>
   show x ++ (⟨#[]⟩ : Str) ++ Str.join ⟨#[]⟩ (y :: r) = _
   rw [ih]
   apply Str_ext
   rw [e, e]
   unfold catS
   simp
theorem strs_values {h : Heap} : ∀ {vs : List Value} {ls : List Str} {as : List Addr}, ReadsAll h vs (ls.map .str) as -> ∃ l : List (Str × Tok), strValues l = vs /\ l.map (·.1) = ls
 | _, [], _, r => by cases r; exact ⟨[], rfl, rfl⟩
 | _, x :: ls, _, r => by
  cases r with
  | cons h1 h2 =>
  cases h1
  obtain ⟨l, e1, e2⟩ := strs_values h2
  exact ⟨(x, _) :: l, by rw [<- e1]; rfl, by rw [<- e2]; rfl⟩
theorem ReadsAll.append {h : Heap} {vs ws : List Value} {xs ys : List PyData} {as bs : List Addr} (h1 : ReadsAll h vs xs as) (r : ReadsAll h ws ys bs) : ReadsAll h (vs ++ ws) (xs ++ ys) (as ++ bs) := by
 induction xs generalizing vs as with
 | nil => obtain ⟨rfl, rfl⟩ := rda_nil h1; exact r
 | cons x xs ih =>
  obtain ⟨v, w, b, c, rfl, r1, r2, rfl⟩ := rda_cons h1
  rw [List.append_assoc]
  exact .cons r1 (ih r2)
theorem ReadsAll.takes {h : Heap} {vs : List Value} {xs : List PyData} {as : List Addr} (k : Nat) (r : ReadsAll h vs xs as) : ∃ bs, ReadsAll h (vs.take k) (xs.take k) bs /\ ∀ b ∈ bs, b ∈ as := by
 induction k generalizing vs xs as with
 | zero => exact ⟨[], .nil, nofun⟩
 | succ k ih =>
  cases xs with
  | nil => obtain ⟨rfl, -⟩ := rda_nil r; exact ⟨[], .nil, nofun⟩
  | cons x xs =>
   obtain ⟨v, w, b, c, rfl, r1, r2, rfl⟩ := rda_cons r
   obtain ⟨bs, r, g⟩ := ih r2
   exact ⟨_, .cons r1 r, fun z hb => List.mem_append.mpr ((List.mem_append.mp hb).imp id (g z))⟩
section
variable {f : Fm}
section
variable {α β : Type} {T : β -> Shared -> α -> Prop} {X : Value -> Shared -> Xc -> Prop} {Q : β -> Shared -> Prop} {E : Value -> Shared -> Prop} {x y : PyData} {g : PyData -> Rs α}
theorem dn_ladd (D : Dn T X Q E ((laddD x y).bind g)) : ∃ xs ys, x = .list xs /\ y = .list ys /\ xs.length + ys.length <= big /\ Dn T X Q E (g (.list (xs ++ ys))) := by
 replace D := dn_of2 list_takes D
 obtain ⟨xs, rfl, D⟩ := D
 replace D := dn_of2 list_takes D
 obtain ⟨ys, rfl, D⟩ := D
 obtain ⟨hz, D⟩ := dn_if2 D
 exact ⟨xs, ys, rfl, rfl, hz, D⟩
theorem dn_lsl (D : Dn T X Q E ((lslD x y).bind g)) : ∃ (xs : List PyData) (j : Nat), x = .list xs /\ y = .int (j : Int) /\ xs.length <= big /\ Dn T X Q E (g (.list (xs.take j))) := by
 replace D := dn_of2 list_takes D
 obtain ⟨xs, rfl, D⟩ := D
 replace D := dn_of2 int_takes D
 obtain ⟨j, rfl, D⟩ := D
 obtain ⟨hz, D⟩ := dn_if2 D
 rw [Bool.and_eq_true, decide_eq_true_eq] at hz
 exact ⟨xs, j.toNat, rfl, by rw [<- okN_eq hz.1], hz.2, D⟩
theorem dn_join (D : Dn T X Q E ((joinD x).bind g)) : ∃ ls : List Str, x = .list (ls.map .str) /\ (catS ls).cps.size <= big /\ ls.length <= big /\ Dn T X Q E (g (.str (catS ls))) := by
 replace D := dn_of2 list_takes D
 obtain ⟨xs, rfl, D⟩ := D
 replace D := dn_some2 D
 obtain ⟨ls, hl, D⟩ := D
 obtain ⟨hz, D⟩ := dn_if2 D
 rw [Bool.and_eq_true, decide_eq_true_eq, decide_eq_true_eq] at hz
 exact ⟨ls, by rw [strs_map hl], hz.1, hz.2, D⟩
end
theorem ev_ladd (O : f.Ok) {a b : Expr} {p : Pos} {ca cb : Ex} (Ha : EvOk f a ca) (Hb : EvOk f b cb) : EvOk f (.BinOp a .Add b p) (.ladd ca cb) := by
 intro oa σ s Q E S D
 refine wpAny_BinOp (ev_d Ha S D exF_id fun va s₁ xa G₁ Ra D => ev_d Hb (S.grow G₁) D (exF_grow G₁) fun vb s₂ xb G₂ Rb D => ?_)
 have S₂ := S.grow (G₁.trans G₂)
 obtain ⟨xs, ys, rfl, rfl, hz, D'⟩ := dn_ladd D
 obtain ⟨as, ra, c⟩ := Ra.stays G₂.stays
 obtain ⟨bs, rb, c'⟩ := Rb
 obtain ⟨l1, vs1, as1, rfl, ⟨o1, r1, r2, n1, r3⟩, r4, rfl⟩ := rd_list ra
 obtain ⟨l2, vs2, as2, rfl, ⟨o2, q1, q2, n2, q3⟩, q4, rfl⟩ := rd_list rb
 have e1 : vs1.size = xs.length := by rw [<- reads_len r4]; simp
 have e2 : vs2.size = ys.length := by rw [<- reads_len q4]; simp
 obtain ⟨c1, d1, dt1, sl1⟩ := o1
 obtain ⟨c2, d2, dt2, sl2⟩ := o2
 simp only at r2 r3 q2 q3
 subst r2 r3 q2 q3
 have R : RpAll f oa s₂.heap (vs1 ++ vs2).toList (xs ++ ys) := ⟨as1 ++ as2, by rw [Array.toList_append]; exact ReadsAll.append r4 q4, fun b hb => (List.mem_append.mp hb).elim (fun h => c b (.tail _ h)) (fun h => c' b (.tail _ h))⟩
 exact concat_meets ⟨_, r1, rfl⟩ ⟨_, q1, rfl⟩ noFill_list_add seq_list_add PySem.F.slot_list_add PySem.F.entry_list_add (PySem.F.args_list_add_2 _ _) (list_addW l1 l2 vs1 vs2 n1 n2 d1 d2 sl1 sl2 (by rw [e1, e2]; exact Nat.le_trans hz (by decide)))
  ⟨r1, q1, D' _ _ ⟨(G₁.trans G₂).trans (Grow.push s₂ _), rp_list S₂ R⟩⟩
theorem isLname_name {e : Expr} (h : isLname e = true) : ∃ x p, e = .Name x p := by
 unfold isLname at h
 cases hx : asName e with
 | none => rw [hx] at h; cases h
 | some x => obtain ⟨p, rfl⟩ := asName_eq hx; exact ⟨x, p, rfl⟩
theorem ev_lsl {a l : Expr} {p q : Pos} {ca cl : Ex} (hl : isLname a = true) (Ha : EvOk f a ca) (Hl : EvOk f l cl) : EvOk f (.Subscript a (.Slice none (some l) none q) p) (.lsl ca cl) := by
 intro oa σ s Q E S D
 obtain ⟨x, px, rfl⟩ := isLname_name hl
 refine Subscript_ (ev_d Ha S D exF_id fun va s₁ xa G₁ Ra D => wpAny_Slice (evalPart_none_step (evalPart_some_step (ev_d Hl (S.grow G₁) D (exF_grow G₁) fun vl s₂ xl G₂ Rl D => evalPart_none_step ?_))))
 have S₂ := S.grow (G₁.trans G₂)
 obtain ⟨xs, j, rfl, rfl, hz, D'⟩ := dn_lsl D
 obtain ⟨as, ra, c⟩ := Ra.stays G₂.stays
 obtain ⟨bs, rb, c'⟩ := Rl
 obtain ⟨tj, rfl⟩ := rd_int rb
 obtain ⟨l1, vs1, as1, rfl, hL, r4, rfl⟩ := rd_list ra
 have e1 : vs1.size = xs.length := by rw [<- reads_len r4]; simp
 refine subscriptTail_ops (ops := [.ref s₂.heap.objs.size, .ref l1]) (Heap.IsList.typeIs (s := { s₂ with heap := s₂.heap.push { cls := .type "slice", data := .fields #[.none, .int (j : Int) tj, .none] } }) (hL.push _)) list_getitem_lookup
  (wpAny_getItem_list_slice (hL.push _) (Heap.IsSliceOf.new ..) .none (.int _ _) .none (by simp) ?_ (by rw [e1]; exact Nat.le_trans hz (by decide))) (by with_unfolding_all rfl) (by intro _; with_unfolding_all rfl)
 have G₃ := Grow.push s₂ ({ cls := .type "slice", data := .fields #[.none, .int (j : Int) tj, .none] } : Obj)
 obtain ⟨ds, rd, kd⟩ := ReadsAll.takes j r4
 have hp : (slicePick vs1 none (some (j : Int)) none).toList = vs1.toList.take j := by
  rw [slicePick_upto' vs1 j]
 have R : RpAll f oa (s₂.heap.push ({ cls := .type "slice", data := .fields #[.none, .int (j : Int) tj, .none] } : Obj)) (slicePick vs1 none (some (j : Int)) none).toList (xs.take j) := ⟨ds, by rw [hp]; exact ReadsAll.keeps G₃.stays rd, fun b hb => c b (.tail _ (kd b hb))⟩
 exact D' _ _ ⟨((G₁.trans G₂).trans G₃).trans (Grow.push _ _), rp_list (S₂.grow G₃) R⟩
theorem ev_joinL (O : f.Ok) {o e : Expr} {m : Str} {ap p : Pos} {ce : Ex} (ho : isStrLit o = true) (hm : m = "join") (hk : okM o ap p [e] = true) (He : EvOk f e ce) (hs : ∀ env, starEach [e] env = (false, eval e env) :: starEach [] env) :
  EvOk f (.Call (.Attribute o m ap) [e] [] p) (.joinL ce) := by
 intro oa σ s Q E S D
 subst hm
 obtain ⟨k1, k2, k3⟩ := okM_all hk
 have : ∃ k q, o = .Constant (.str ⟨#[]⟩) k q := by
  unfold isStrLit at ho
  cases hx : asStr o with
  | none => rw [hx] at ho; cases ho
  | some x =>
   rw [hx] at ho
   obtain ⟨k, q, rfl⟩ := asStr_eq hx
   have : x = ⟨#[]⟩ := Str_ext (by rw [List.eq_nil_of_length_eq_zero (l := x.cps.toList) (beq_iff_eq.mp ho)])
   exact ⟨k, q, by rw [this]⟩
 obtain ⟨k, q, rfl⟩ := this
 refine MethodCall_ (wpAny_Constant_str (GM.join ?_)) (meth_he k1 k2 k3 (by rw [hs]; rfl))
 have G₀ : Grow s { s with toks := s.toks + 1 } := Grow.tok s _
 refine callWith_method1 (spliced_more (ev_d He (S.grow G₀) D (exF_grow G₀) fun v s₁ y G R D => spliced_none ?_) (hs _)) (hs _) rfl
 obtain ⟨as, ra, c⟩ := R
 obtain ⟨ls, rfl, hz1, hz2, D'⟩ := dn_join D
 obtain ⟨l1, vs1, as1, rfl, ⟨o1, r1, r2, n1, r3⟩, r4, rfl⟩ := rd_list ra
 obtain ⟨l, e1, e2⟩ := strs_values r4
 have hL : s₁.heap.IsList l1 (strValues l).toArray := ⟨o1, r1, r2, n1, by rw [r3, e1]⟩
 refine SC.join hL e2 (joinOk_of ?_) fun t' k => ?_
 ·have h1 : (ls.map (·.length)).sum = (catS ls).cps.size := by
   unfold catS
   simp only [List.size_toArray, List.length_flatMap]
   congr 1
  have h2 : (⟨#[]⟩ : Str).length = 0 := rfl
  rw [h1, h2]
  have hz1 : (catS ls).cps.size <= 1048576 := hz1
  have hz2 : ls.length <= 1048576 := hz2
  lia
 ·rw [cat_join]
  exact D' _ _ ⟨(G₀.trans G).trans (Grow.tok s₁ k), Rp.nil (.str _ _)⟩
end
theorem isNone_eq {α : Type} {o : Option α} (h : o.isNone = true) : o = none := by
 cases o with
 | none => rfl
 | some _ => cases h
section
variable {f : Fm}
noncomputable abbrev Both (f : Fm) (e : Expr) (c : Ex) : Prop := EvOk f e c /\ TrOk f e c
noncomputable abbrev Three (f : Fm) (l : List Expr) (c : Exs) : Prop := EvsOk f l c /\ BoOk f .And l (fun σ => evAnd f.cf σ c) /\ BoOk f .Or l (fun σ => evOr f.cf σ c)
theorem both_plain {e : Expr} {c : Ex} (H : EvOk f e c) (he : ∀ w, isTrue e f.env w = (do let v <- w; standAt e.pos; holding [v] (truthy v))) : Both f e c := ⟨H, tr_of_ev H (he _)⟩
theorem dget_shape {o : Expr} {l : List Expr} {d : Dg} (h : dgetOf o l = some d) :
  ∃ k₁ p₁ k₂ p₂ dp, o = .Dict [some (.Constant (.str d.a) k₁ p₁), some (.Constant (.str d.b) k₂ p₂)] [d.x, d.y] dp /\ l = [d.k, d.d] :=
 bd h fun kv h1 h => bd h fun ks h2 h => bd h fun xy h3 h => bd h fun e1 h4 h => bd h fun e2 h5 h => bd h fun a h6 h => bd h fun b h7 h => by
  obtain ⟨kd, h8, rfl⟩ := mpd h
  obtain ⟨dp, q⟩ := asDict_eq h1
  obtain ⟨k₁, p₁, q1⟩ := asStr_eq h6
  obtain ⟨k₂, p₂, q2⟩ := asStr_eq h7
  rw [q1] at h4
  rw [q2] at h5
  exact ⟨k₁, p₁, k₂, p₂, dp, by rw [q, two_some h2, two_some h3, h4, h5], two_some h8⟩
variable {n : Nat} (ihE : ∀ e c, cE f.cfg n e = some c -> Both f e c) (ihL : ∀ l c, cEs f.cfg n l = some c -> Three f l c)
include ihE
section
variable {e : Expr} {c : Ex}
theorem ok_plus (O : f.Ok') (h : lPlus (cE f.cfg n) e = some c) : Both f e c :=
 bd h fun ab h1 h => fd h fun _ h => bd h fun a h2 h => md h fun b h3 => by
  obtain ⟨p, q⟩ := asPlus_eq h1
  rw [q]
  exact both_plain (ev_ladd O.toOk (ihE _ _ h2).1 (ihE _ _ h3).1) fun _ => rfl
theorem ok_join (O : f.Ok') (h : lCall (cE f.cfg n) e = some c) : Both f e c :=
 bd h fun fl h1 h => bd h fun om h2 h => bd h fun x h3 h => fd h fun hc h => md h fun y h4 => by
  rw [Bool.and_eq_true, Bool.and_eq_true] at hc
  rw [asCall_eq h1, asAttr_eq h2, one_some h3]
  exact both_plain (ev_joinL O.toOk hc.1 (beq_iff_eq.mp hc.2.1) hc.2.2 (ihE _ _ h4).1 fun env => (kd h4).star _ _) fun _ => rfl
theorem ok_lsl (O : f.Ok') (h : lSub (cE f.cfg n) e = some c) : Both f e c :=
 vd h fun x q h => fd h fun hl h => bd h fun s h1 h => fd h fun hc h => bd h fun u h2 h => bd h fun a h3 h => md h fun b h4 => by
  rw [Bool.and_eq_true] at hc
  obtain ⟨p, q2⟩ := asSlice_eq h1
  rw [q, q2, isNone_eq hc.1, isNone_eq hc.2, h2]
  exact both_plain (ev_lsl hl (ihE _ _ h3).1 (ihE _ _ h4).1) fun _ => rfl
theorem law_ok (O : f.Ok') (h : lLaw (cE f.cfg n) e = some c) : Both f e c := jd h (ok_plus ihE O) fun h => jd h (ok_join ihE O) (ok_lsl ihE O)
end
theorem un_ok {o : UnaryOp} {a : Expr} {p : Pos} {c : Ex} (h : cUn (cE f.cfg n) o a = some c) : Both f (.UnaryOp o a p) c := by
 cases o with
 | USub => exact md h fun a h1 => both_plain (ev_neg (ihE _ _ h1).1) fun _ => rfl
 | Not => exact md h fun a h1 => ev_not (ihE _ _ h1).1 (ihE _ _ h1).2
 | _ => cases h
theorem cmp1_ok (O : f.Ok') {l r : Expr} {o : CmpOp} {p : Pos} {c : Ex} (h : cCmp1 f.cfg (cE f.cfg n) l o r = some c) : Both f (.Compare l [o] [r] p) c :=
 yd h (fun hs h => fd h fun ho h => hd1 h (by
  rw [Bool.and_eq_true] at hs
  rw [of_decide_eq_true ho]
  exact ev_ownSome O.toOk hs.1 hs.2)) fun _ h => bd h fun o h3 h => bd h fun l h4 h => md h fun r h5 => ev_cmp O.toOk (ihE _ _ h4).1 (ihE _ _ h5).1 h3 ((kd h5).marks _)
theorem cmp2_ok (O : f.Ok') {l m r : Expr} {o q : CmpOp} {p : Pos} {c : Ex} (h : cCmp2 (cE f.cfg n) l o q m r = some c) : Both f (.Compare l [o, q] [m, r] p) c :=
 bd h fun _ g1 h => bd h fun _ g2 h => bd h fun _ g3 h => bd h fun _ g4 h => md h fun _ g5 => ev_cmp2 O.toOk (ihE _ _ g3).1 (ihE _ _ g4).1 (ihE _ _ g5).1 g1 g2 ((kd g5).marks _)
theorem cmp_ok (O : f.Ok') {l : Expr} {os : List CmpOp} {rs : List Expr} {p : Pos} {c : Ex} (h : cCmp f.cfg (cE f.cfg n) l os rs = some c) : Both f (.Compare l os rs p) c := by
 unfold cCmp at h
 cases h1 : one os with
 | some o =>
  rw [h1] at h
  exact bd h fun r h2 h => by rw [one_some h1, one_some h2]; exact cmp1_ok ihE O h
 | none =>
  rw [h1] at h
  exact bd h fun oq h2 h => bd h fun mr h3 h => by rw [two_some h2, two_some h3]; exact cmp2_ok ihE O h
theorem slice_ok {a : Expr} {lo hi : Option Expr} {p q : Pos} {c : Ex} (h : cSlice (cE f.cfg n) a lo hi = some c) : EvOk f (.Subscript a (.Slice lo hi none q) p) c := by
 unfold cSlice at h
 match lo, hi with
 | none, _ => exact bd h fun u e h => bd h fun a h1 h => md h fun u h2 => by rw [e]; exact ev_slNS (ihE _ _ h1).1 (ihE _ _ h2).1
 | some l, none => exact bd h fun a h1 h => md h fun u h2 => ev_slSN (ihE _ _ h1).1 (ihE _ _ h2).1
 | some l, some u => exact bd h fun a h1 h => bd h fun l h2 h => md h fun u h3 => ev_slSS (ihE _ _ h1).1 (ihE _ _ h2).1 (ihE _ _ h3).1
theorem sub_ok (O : f.Ok') {a i : Expr} {p : Pos} {c : Ex} (h : cSub f.cfg (cE f.cfg n) a i = some c) : EvOk f (.Subscript a i p) c := by
 unfold cSub at h
 cases h1 : asSlice i with
 | some s =>
  rw [h1] at h
  exact fd h fun hs h => by
   obtain ⟨q, e⟩ := asSlice_eq h1
   rw [e, isNone_eq hs]
   exact slice_ok ihE h
 | none =>
  rw [h1] at h
  exact yd h (fun ho h => fd h fun hm h => hd1 h (ev_ownLast O.toOk ho hm)) fun _ h => bd h fun a h2 h => md h fun i h3 => ev_idx (ihE _ _ h2).1 (ihE _ _ h3).1 (kd h3).slice
include ihL
omit ihE ihL in
theorem not_nb {b : Bool} (h : ¬(!b) = true) : b = true := by
 cases b
 ·exact absurd rfl h
 ·rfl
section
variable {x : Str} {l : List Expr} {p q : Pos} {c : Ex}
omit ihE in
theorem raisedN_ok (O : f.Ok') (hg : ("Raised" : Str) ∈ f.cfg.globs) (h : (if l.isEmpty then none else (cEs f.cfg n l).map .raised) = some c) : EvOk f (.Call (.Name "Raised" q) l [] p) c :=
 nd h fun hl h => md h fun l' h1 => by
  cases l with
  | nil => exact absurd rfl hl
  | cons e₀ l =>
  obtain ⟨m, a, b, -, g1, g2, -⟩ := cEs_cons h1
  exact ev_raised O (ihL _ _ h1).1 hg ((kd g1).star _ _) (cEs_any g2)
omit ihE in
theorem fnN_ok (O : f.Ok') (hg : x ∈ f.cfg.globs) (h : (if l.isEmpty then none else (f.cfg.fns.findIdx? (· == x)).bind fun i => (cEs f.cfg n l).map fun l => .call i l) = some c) : EvOk f (.Call (.Name x q) l [] p) c :=
 nd h fun hl h => bd h fun i h1 h => md h fun l' h2 => by
  cases l with
  | nil => exact absurd rfl hl
  | cons e₀ l =>
  obtain ⟨m, a, b, -, g1, g2, -⟩ := cEs_cons h2
  exact ev_call O.toOk (ihL _ _ h2).1 hg h1 ((kd g1).star _ _)
theorem callN_ok (O : f.Ok') (h : cCallN f.cfg (cE f.cfg n) (cEs f.cfg n) x l = some c) : EvOk f (.Call (.Name x q) l [] p) c :=
 nd h fun hg h => by
 have hg : x ∈ f.cfg.globs := List.contains_iff_mem.mp (not_nb hg)
 refine yd h (fun hr h => ?_) fun _ h => yd h (fun ht h => bd h fun a h1 h => fd h fun ho h => hd1 h ?_) fun _ h => ?_
 ·rw [beq_iff_eq.mp hr] at hg ⊢
  exact raisedN_ok ihL O hg h
 ·rw [beq_iff_eq.mp ht] at hg ⊢
  rw [one_some h1]
  exact ev_ownTup O.toOk ho hg
 cases hb : biOf x with
 | some b =>
  rw [hb] at h
  exact bd h fun a h1 h => nd h fun _ h => md h fun _ h2 => by rw [one_some h1]; exact ev_bi O.toOk (ihE _ _ h2).1 hg hb ((kd h2).star _ _)
 | none =>
  rw [hb] at h
  exact fnN_ok ihL O hg h
end
theorem callA_ok (O : f.Ok') {o : Expr} {m : Str} {ap p : Pos} {l : List Expr} {c : Ex} (h : cCallA (cE f.cfg n) (cEs f.cfg n) o m ap p l = some c) : EvOk f (.Call (.Attribute o m ap) l [] p) c := by
 unfold cCallA at h
 cases hd : dgetOf o l with
 | some d =>
  rw [hd] at h
  refine fd h fun hk h => bd h fun x h1 h => bd h fun y h2 h => bd h fun k h3 h => md h fun d' h4 => ?_
  obtain ⟨k₁, p₁, k₂, p₂, dp, rfl, rfl⟩ := dget_shape hd
  rw [Bool.and_eq_true] at hk
  obtain rfl := beq_iff_eq.mp hk.1
  exact ev_dget O.toOk (ihE _ _ h1).1 (ihE _ _ h2).1 (ihE _ _ h3).1 (ihE _ _ h4).1 hk.2 fun env => by rw [(kd h3).star, (kd h4).star]; rfl
 | none =>
  rw [hd] at h
  exact fd h fun hk h => bd h fun m h1 h => bd h fun o h2 h => md h fun l h3 => ev_me O.toOk (ihE _ _ h2).1 (ihL _ _ h3).1 h1 hk h3
theorem call_ok (O : f.Ok') {g : Expr} {l : List Expr} {p : Pos} {c : Ex} (h : cCall f.cfg (cE f.cfg n) (cEs f.cfg n) g l p = some c) : EvOk f (.Call g l [] p) c := by
 unfold cCall at h
 cases h1 : asName g with
 | some x =>
  rw [h1] at h
  obtain ⟨q, rfl⟩ := asName_eq h1
  exact callN_ok ihE ihL O h
 | none =>
  rw [h1] at h
  exact bd h fun om h2 h => by rw [asAttr_eq h2]; exact callA_ok ihE ihL O h
section
omit ihL
variable {e : Expr} {c : Ex}
omit ihE in
theorem ok_const (h : aConst e = some c) : Both f e c := vd h fun x q h => by rw [q]; exact both_plain (ev_const h) fun _ => rfl
omit ihE in
theorem ok_name (O : f.Ok') (h : aName f.cfg e = some c) : Both f e c := vd h fun x q h => by rw [q]; exact md h fun i h => both_plain (ev_name O.toOk h) fun _ => rfl
theorem ok_bin (O : f.Ok') (h : aBin (cE f.cfg n) e = some c) : Both f e c := vd h fun x q h => by
 rw [q]
 exact bd h fun o h1 h => bd h fun l h2 h => md h fun r h3 => both_plain (ev_bin O.toOk (ihE _ _ h2).1 (ihE _ _ h3).1 h1) fun _ => rfl
theorem ok_un (h : aUn (cE f.cfg n) e = some c) : Both f e c := vd h fun x q h => by rw [q]; exact un_ok ihE h
theorem ok_cmp (O : f.Ok') (h : aCmp f.cfg (cE f.cfg n) e = some c) : Both f e c := vd h fun x q h => by rw [q]; exact cmp_ok ihE O h
theorem ok_if (h : aIf (cE f.cfg n) e = some c) : Both f e c := vd h fun x q h => by
 rw [q]
 exact bd h fun t h1 h => bd h fun a h2 h => md h fun b h3 => ⟨ev_ite (ihE _ _ h1).2 (ihE _ _ h2).1 (ihE _ _ h3).1, tr_ite (ihE _ _ h1).2 (ihE _ _ h2).2 (ihE _ _ h3).2⟩
theorem ok_sub (O : f.Ok') (h : aSub f.cfg (cE f.cfg n) e = some c) : Both f e c := vd h fun x q h => by rw [q]; exact both_plain (sub_ok ihE O h) fun _ => rfl
include ihL
theorem ok_call (O : f.Ok') (h : aCall f.cfg (cE f.cfg n) (cEs f.cfg n) e = some c) : Both f e c := vd h fun x q h => fd h fun hk h => by
 rw [q, List.isEmpty_iff.mp hk]
 exact both_plain (call_ok ihE ihL O h) fun _ => rfl
omit ihE
theorem bo_ok {o : BoolOp} {l : List Expr} {p : Pos} (h : cBo (cEs f.cfg n) o l = some c) : Both f (.BoolOp o l p) c := nd h fun hl h => by
 have hl' : l ≠ [] := fun q => hl (by rw [q]; rfl)
 cases o with
 | And => exact md h fun l h => ev_bo (ihL _ _ h).2.1 hl' fun σ => rfl
 | Or => exact md h fun l h => ev_bo (ihL _ _ h).2.2 hl' fun σ => rfl
theorem ok_bo (h : aBo (cEs f.cfg n) e = some c) : Both f e c := vd h fun x q h => by rw [q]; exact bo_ok ihL h
theorem ok_tup (hn : n < 1000) (h : aTup (cEs f.cfg n) e = some c) : Both f e c := vd h fun x q h => by
 rw [q]
 exact md h fun l h => both_plain (ev_tup (ihL _ _ h).1 (Nat.le_of_lt (Nat.lt_trans (cEs_len h) hn))) fun _ => rfl
theorem ok_lst (hn : n < 1000) (h : aLst (cEs f.cfg n) e = some c) : Both f e c := vd h fun x q h => by
 rw [q]
 exact md h fun l h => both_plain (ev_lst (ihL _ _ h).1 (Nat.le_of_lt (Nat.lt_trans (cEs_len h) hn))) fun _ => rfl
include ihE
theorem e1_ok (O : f.Ok') (hn : n < 1000) (h : cE1 f.cfg (cE f.cfg n) (cEs f.cfg n) e = some c) : Both f e c :=
 jd h ok_const fun h => jd h (ok_name O) fun h => jd h (ok_bin ihE O) fun h => jd h (ok_un ihE) fun h => jd h (ok_bo ihL) fun h => jd h (ok_cmp ihE O) fun h => jd h (ok_if ihE) fun h => jd h (ok_sub ihE O) fun h => jd h (ok_tup ihL hn) fun h => jd h (ok_lst ihL hn) (ok_call ihE ihL O)
end
theorem cons_ok {e : Expr} {l : List Expr} {c : Exs} (h : cEs f.cfg (n + 1) (e :: l) = some c) : Three f (e :: l) c := by
 refine bd (show (cE f.cfg n e).bind (fun a => (cEs f.cfg n l).map fun l => Exs.cons a l) = some c from h) fun a h1 h => md h fun b h2 => ?_
 have a := ihL _ _ h2
 have hb : l = [] -> b = .nil := fun q => by subst q; exact cEs_nil h2
 exact ⟨evs_cons (ihE _ _ h1).1 a.1 ((kd h1).star _ _), and_cons (ihE _ _ h1).1 (ihE _ _ h1).2 a.2.1 (fun q σ => by rw [hb q]; rfl), or_cons (ihE _ _ h1).1 (ihE _ _ h1).2 a.2.2 (fun q σ => by rw [hb q]; rfl)⟩
omit ihE ihL
theorem ev_all (O : f.Ok') (n : Nat) : n <= 1000 -> (∀ e c, cE f.cfg n e = some c -> Both f e c) /\ (∀ l c, cEs f.cfg n l = some c -> Three f l c) := by
 induction n with
 | zero => exact fun _ => ⟨fun e c h => (nomatch h), fun l c h => (nomatch h)⟩
 | succ n ih =>
  intro hn
  obtain ⟨ihE, ihL⟩ := ih (Nat.le_of_lt hn)
  refine ⟨fun e c h => ?_, fun l c h => ?_⟩
  ·obtain ⟨-, m, e1, h⟩ := cE_some h
   cases e1
   exact h.elim (law_ok ihE O) (e1_ok ihE ihL O hn)
  ·cases l with
   | nil => exact hd1 h ⟨evs_nil, and_nil, or_nil⟩
   | cons e l => exact cons_ok ihE ihL h
end
theorem reads_conv {h h' : Heap} {G : Addr -> Prop} (hs : ∀ b o, h.get? b = some o -> (∀ vs, o.data ≠ .fields vs) -> (o.cls = .type "tuple" /\ (∃ vs n, o.data = .seq vs n)) \/ G b -> ∃ o', h'.get? b = some o' /\ o'.cls = o.cls /\ o'.data = o.data) :
  (∀ {v d as}, Reads h v d as -> (∀ b ∈ as, G b) -> Reads h' v d as) /\ ∀ {vs ds as}, ReadsAll h vs ds as -> (∀ b ∈ as, G b) -> ReadsAll h' vs ds as := by
 have seq : ∀ {o : Obj} {vs : Array Value} {n : Nat}, o.data = .seq vs n -> ∀ ws, o.data ≠ .fields ws := fun e ws q => by rw [e] at q; cases q
 have list : ∀ {a o vs n xs as}, h.get? a = some o -> o.cls = .type "list" -> o.data = .seq vs n -> ((∀ b ∈ as, G b) -> ReadsAll h' vs.toList xs as) -> (∀ b ∈ a :: as, G b) -> Reads h' (.ref a) (.list xs) (a :: as) := by
  intro a o vs n xs as h1 h2 h3 ih c
  obtain ⟨o', g1, g2, g3⟩ := hs a o h1 (seq h3) (.inr (c a (.head _)))
  exact .list g1 (g2.trans h2) (g3.trans h3) (ih fun b hb => c b (.tail _ hb))
 have tup : ∀ {a o vs n xs as}, h.get? a = some o -> o.cls = .type "tuple" -> o.data = .seq vs n -> ((∀ b ∈ as, G b) -> ReadsAll h' vs.toList xs as) -> (∀ b ∈ as, G b) -> Reads h' (.ref a) (.tuple xs) as := by
  intro a o vs n xs as h1 h2 h3 ih c
  obtain ⟨o', g1, g2, g3⟩ := hs a o h1 (seq h3) (.inl ⟨h2, _, _, h3⟩)
  exact .tuple g1 (g2.trans h2) (g3.trans h3) (ih c)
 have dict : ∀ {a o es n} {kvs : List (PyData × PyData)} {as bs}, h.get? a = some o -> o.cls = .type "dict" -> o.data = .dict es n -> ((∀ b ∈ as, G b) -> ReadsAll h' (es.toList.map (·.key)) (kvs.map (·.1)) as) -> ((∀ b ∈ bs, G b) -> ReadsAll h' (es.toList.map (·.val)) (kvs.map (·.2)) bs) -> (∀ b ∈ a :: as ++ bs, G b) -> Reads h' (.ref a) (.dict kvs) (a :: as ++ bs) := by
  intro a o es n kvs as bs h1 h2 h3 ih ih2 c
  obtain ⟨o', g1, g2, g3⟩ := hs a o h1 (fun ws q => by rw [h3] at q; cases q) (.inr (c a (.head _)))
  exact .dict g1 (g2.trans h2) (g3.trans h3) (ih fun b hb => c b (.tail _ (List.mem_append_left _ hb))) (ih2 fun b hb => c b (.tail _ (List.mem_append_right _ hb)))
 have cons : ∀ {v vs d ds as bs}, ((∀ b ∈ as, G b) -> Reads h' v d as) -> ((∀ b ∈ bs, G b) -> ReadsAll h' vs ds bs) -> (∀ b ∈ as ++ bs, G b) -> ReadsAll h' (v :: vs) (d :: ds) (as ++ bs) :=
  fun ih ih2 c => .cons (ih fun b hb => c b (List.mem_append_left _ hb)) (ih2 fun b hb => c b (List.mem_append_right _ hb))
 exact ⟨fun r => Reads.rec (motive_1 := fun v d as _ => (∀ b ∈ as, G b) -> Reads h' v d as) (motive_2 := fun vs ds as _ => (∀ b ∈ as, G b) -> ReadsAll h' vs ds as) (fun _ => .none) (fun b _ => .bool b) (fun i t _ => .int i t) (fun x t _ => .str x t)
   (fun h1 h2 h3 _ ih => list h1 h2 h3 ih) (fun h1 h2 h3 _ ih => tup h1 h2 h3 ih) (fun h1 h2 h3 _ _ ih ih2 => dict h1 h2 h3 ih ih2) (fun _ => .nil) (fun _ _ ih ih2 => cons ih ih2) r,
  fun r => ReadsAll.rec (motive_1 := fun v d as _ => (∀ b ∈ as, G b) -> Reads h' v d as) (motive_2 := fun vs ds as _ => (∀ b ∈ as, G b) -> ReadsAll h' vs ds as) (fun _ => .none) (fun b _ => .bool b) (fun i t _ => .int i t) (fun x t _ => .str x t)
   (fun h1 h2 h3 _ ih => list h1 h2 h3 ih) (fun h1 h2 h3 _ ih => tup h1 h2 h3 ih) (fun h1 h2 h3 _ _ ih ih2 => dict h1 h2 h3 ih ih2) (fun _ => .nil) (fun _ _ ih ih2 => cons ih ih2) r⟩
theorem but_conv {h h' : Heap} {D : Addr -> Prop} (hk : ∀ b o, ¬ D b -> h.get? b = some o -> h'.get? b = some o) (ht : ∀ b o vs n, D b -> h.get? b = some o -> o.cls = .type "tuple" -> o.data = .seq vs n -> False) :
  ∀ b o, h.get? b = some o -> (∀ vs, o.data ≠ .fields vs) -> (o.cls = .type "tuple" /\ (∃ vs n, o.data = .seq vs n)) \/ ¬ D b -> ∃ o', h'.get? b = some o' /\ o'.cls = o.cls /\ o'.data = o.data := by
 intro b o h1 _ h2
 have : ¬ D b := h2.elim (fun ⟨g1, vs, n, g2⟩ q => ht b o vs n q h1 g1 g2) id
 exact ⟨o, hk b o this h1, rfl, rfl⟩
theorem Reads.but {h h' : Heap} {D : Addr -> Prop} (hk : ∀ b o, ¬ D b -> h.get? b = some o -> h'.get? b = some o) (ht : ∀ b o vs n, D b -> h.get? b = some o -> o.cls = .type "tuple" -> o.data = .seq vs n -> False)
  {v : Value} {d : PyData} {as : List Addr} (r : Reads h v d as) (c : ∀ b ∈ as, ¬ D b) : Reads h' v d as := (reads_conv (but_conv hk ht)).1 r c
theorem ReadsAll.but {h h' : Heap} {D : Addr -> Prop} (hk : ∀ b o, ¬ D b -> h.get? b = some o -> h'.get? b = some o) (ht : ∀ b o vs n, D b -> h.get? b = some o -> o.cls = .type "tuple" -> o.data = .seq vs n -> False)
  {vs : List Value} {ds : List PyData} {as : List Addr} (r : ReadsAll h vs ds as) (c : ∀ b ∈ as, ¬ D b) : ReadsAll h' vs ds as := (reads_conv (but_conv hk ht)).2 r c
noncomputable def SeqLike (h : Heap) (b : Addr) : Prop := ∃ o, h.get? b = some o /\ ∀ vs, o.data ≠ .fields vs
theorem reads_like {h : Heap} : (∀ {v d as}, Reads h v d as -> ∀ b ∈ as, SeqLike h b) /\ ∀ {vs ds as}, ReadsAll h vs ds as -> ∀ b ∈ as, SeqLike h b := by
 have no : ∀ b ∈ ([] : List Addr), SeqLike h b := fun _ hb => nomatch hb
 have list : ∀ {a : Addr} {o : Obj} {vs : Array Value} {n : Nat} {as : List Addr}, h.get? a = some o -> o.data = .seq vs n -> (∀ b ∈ as, SeqLike h b) -> ∀ b ∈ a :: as, SeqLike h b := by
  intro a o vs n as h1 h3 ih b hb
  rcases List.mem_cons.mp hb with rfl | hb
  ·exact ⟨_, h1, fun vs q => by rw [h3] at q; cases q⟩
  ·exact ih b hb
 have dict : ∀ {a : Addr} {o : Obj} {es n} {as bs : List Addr}, h.get? a = some o -> o.data = .dict es n -> (∀ b ∈ as, SeqLike h b) -> (∀ b ∈ bs, SeqLike h b) -> ∀ b ∈ a :: as ++ bs, SeqLike h b := by
  intro a o es n as bs h1 h3 ih ih2 b hb
  rcases List.mem_append.mp hb with hb | hb
  ·rcases List.mem_cons.mp hb with rfl | hb
   ·exact ⟨_, h1, fun vs q => by rw [h3] at q; cases q⟩
   ·exact ih b hb
  ·exact ih2 b hb
 have cons : ∀ {as bs : List Addr}, (∀ b ∈ as, SeqLike h b) -> (∀ b ∈ bs, SeqLike h b) -> ∀ b ∈ as ++ bs, SeqLike h b := fun ih ih2 b hb => (List.mem_append.mp hb).elim (ih b) (ih2 b)
 exact ⟨fun r => Reads.rec (motive_1 := fun v d as _ => ∀ b ∈ as, SeqLike h b) (motive_2 := fun vs ds as _ => ∀ b ∈ as, SeqLike h b) no (fun _ => no) (fun _ _ => no) (fun _ _ => no)
   (fun h1 _ h3 _ ih => list h1 h3 ih) (fun _ _ _ _ ih => ih) (fun h1 _ h3 _ _ ih ih2 => dict h1 h3 ih ih2) no (fun _ _ ih ih2 => cons ih ih2) r,
  fun r => ReadsAll.rec (motive_1 := fun v d as _ => ∀ b ∈ as, SeqLike h b) (motive_2 := fun vs ds as _ => ∀ b ∈ as, SeqLike h b) no (fun _ => no) (fun _ _ => no) (fun _ _ => no)
   (fun h1 _ h3 _ ih => list h1 h3 ih) (fun _ _ _ _ ih => ih) (fun h1 _ h3 _ _ ih ih2 => dict h1 h3 ih ih2) no (fun _ _ ih ih2 => cons ih ih2) r⟩
theorem Reads.like {h : Heap} {v : Value} {d : PyData} {as : List Addr} (r : Reads h v d as) : ∀ b ∈ as, SeqLike h b := reads_like.1 r
theorem ReadsAll.like {h : Heap} {vs : List Value} {ds : List PyData} {as : List Addr} (r : ReadsAll h vs ds as) : ∀ b ∈ as, SeqLike h b := reads_like.2 r
noncomputable abbrev Sm (s s' : Shared) : Prop := ∃ h' tk, s' = { s with heap := h', toks := tk }
theorem Sm.refl (s : Shared) : Sm s s := ⟨s.heap, s.toks, rfl⟩
theorem Sm.trans {a b c : Shared} (x : Sm a b) (y : Sm b c) : Sm a c := by
 obtain ⟨_, _, rfl⟩ := x
 obtain ⟨_, _, rfl⟩ := y
 exact ⟨_, _, rfl⟩
theorem Sm.grow {s s' : Shared} (g : Grow s s') : Sm s s' := let ⟨h, t, e, _⟩ := g; ⟨h, t, e⟩
noncomputable def Keep (f : Fm) (oa : Option Addr) (h h' : Heap) : Prop := ∀ b o, b ≠ f.L -> oa ≠ some b -> h.get? b = some o -> h'.get? b = some o
structure Ext (f : Fm) (oa oa' : Option Addr) (s s' : Shared) : Prop where
 same : Sm s s'
 keep : Keep f oa s.heap s'.heap
 dom : ∀ b, s'.heap.get? b = none -> s.heap.get? b = none
 own : oa' = oa \/ (oa = none /\ ∀ a, oa' = some a -> s.heap.get? a = none)
theorem dom_of_stays {h h' : Heap} (k : h.StaysIn h') (b : Addr) (e : h'.get? b = none) : h.get? b = none := fresh_of_stays k e
theorem Ext.refl (f : Fm) (oa : Option Addr) (s : Shared) : Ext f oa oa s s := ⟨Sm.refl s, fun _ _ _ _ e => e, fun _ e => e, .inl rfl⟩
theorem Ext.grow {f : Fm} {oa : Option Addr} {s s' : Shared} (g : Grow s s') : Ext f oa oa s s' := ⟨Sm.grow g, fun b o _ _ e => g.stays b o e, dom_of_stays g.stays, .inl rfl⟩
theorem Ext.trans {f : Fm} {oa oa₁ oa₂ : Option Addr} {s s₁ s₂ : Shared} (x : Ext f oa oa₁ s s₁) (y : Ext f oa₁ oa₂ s₁ s₂) : Ext f oa oa₂ s s₂ := by
 refine ⟨x.same.trans y.same, fun b o h1 h2 e => ?_, fun b e => x.dom b (y.dom b e), ?_⟩
 ·refine y.keep b o h1 (fun q => ?_) (x.keep b o h1 h2 e)
  rcases x.own with rfl | ⟨_, hf⟩
  ·exact h2 q
  ·rw [hf b q] at e; cases e
 ·rcases y.own with rfl | ⟨rfl, hf⟩
  ·exact x.own
  ·refine .inr ⟨?_, fun a ha => x.dom a (hf a ha)⟩
   rcases x.own with h | ⟨h, _⟩
   ·exact h.symm
   ·exact h
theorem Rp.ext {f : Fm} {oa oa' : Option Addr} {s s' : Shared} {v : Value} {x : PyData} (hL : ∃ m, s.heap.Ns f.L m) (ho : ∀ a, oa = some a -> ∃ its k, s.heap.get? a = some ({ cls := .type "list", data := .seq its k } : Obj))
  (X : Ext f oa oa' s s') (r : Rp f oa s.heap v x) : Rp f oa' s'.heap v x := by
 obtain ⟨as, ra, c⟩ := r
 refine ⟨as, Reads.but (D := fun b => b = f.L \/ oa = some b) (fun b o hn e => X.keep b o (fun q => hn (.inl q)) (fun q => hn (.inr q)) e) ?_ ra fun b hb q => ?_, fun b hb => ⟨(c b hb).1, fun q => ?_, (c b hb).2.2⟩⟩
 ·rintro b o vs n (rfl | h) e hc hd
  ·obtain ⟨m, o', es, ep, h1, h2, _⟩ := hL
   rw [h1] at e; cases e; rw [h2] at hd; cases hd
  ·obtain ⟨its, k, h1⟩ := ho b h
   rw [h1] at e; cases e; simp at hc
 ·rcases q with q | q
  ·exact (c b hb).2.2 q
  ·exact (c b hb).2.1 q
 ·rcases X.own with h | ⟨_, h⟩
  ·exact (c b hb).2.1 (h ▸ q)
  ·obtain ⟨o, ho, _⟩ := Reads.like ra b hb
   rw [h b q] at ho; cases ho
noncomputable def RetOk (f : Fm) (s' : Shared) (v : Value) : V -> Prop
 | .d x => ∃ as, Reads s'.heap v x as /\ ∀ b ∈ as, f.h₀.get? b = none \/ b ∈ f.AA
 | .exc x => ∃ e, v = .ref e /\ NewX f.W.C f.h₀ s'.heap e x
noncomputable def Post (f : Fm) (oa : Option Addr) (s : Shared) (fl : Flow) (s' : Shared) : Out -> Prop
 | .next σ => fl = .next /\ ∃ oa', St f oa' σ s'.heap /\ Ext f oa oa' s s'
 | .brk σ => fl = .brk /\ ∃ oa', St f oa' σ s'.heap /\ Ext f oa oa' s s'
 | .cont σ => fl = .cont /\ ∃ oa', St f oa' σ s'.heap /\ Ext f oa oa' s s'
 | .ret v => ∃ w, fl = .ret w /\ RetOk f s' w v /\ f.h₀.StaysIn s'.heap /\ Sm s s'
noncomputable def ExS (f : Fm) (s : Shared) (e : Value) (s' : Shared) (x : Xc) : Prop :=
 Sm s s' /\ ∃ a, e = .ref a /\ ((FlyX f.W.C (hideAll f.h₀ (framesOf (f.env :: f.outer))) (f.env :: f.outer) a x s'.heap /\ f.h₀.UpToSlots s'.heap) \/ (NewX f.W.C f.h₀ s'.heap a x /\ ∃ m, Fr f.h₀ f.L s'.heap m))
theorem Post.ext {f : Fm} {oa oa₁ : Option Addr} {s s₁ s' : Shared} {fl : Flow} {o : Out} (X : Ext f oa oa₁ s s₁) (P : Post f oa₁ s₁ fl s' o) : Post f oa s fl s' o := by
 cases o with
 | next σ => obtain ⟨h, oa', S, Y⟩ := P; exact ⟨h, oa', S, X.trans Y⟩
 | brk σ => obtain ⟨h, oa', S, Y⟩ := P; exact ⟨h, oa', S, X.trans Y⟩
 | cont σ => obtain ⟨h, oa', S, Y⟩ := P; exact ⟨h, oa', S, X.trans Y⟩
 | ret v => obtain ⟨w, h, R, k, Y⟩ := P; exact ⟨w, h, R, k, X.same.trans Y⟩
theorem ExS.ext {f : Fm} {s s₁ s' : Shared} {e : Value} {x : Xc} (X : Sm s s₁) (P : ExS f s₁ e s' x) : ExS f s e s' x := ⟨X.trans P.1, P.2⟩
theorem ExS.of {f : Fm} {s s₁ s' : Shared} {e : Value} {x : Xc} (X : Sm s s₁) (k : f.h₀.StaysIn s₁.heap) (P : ExF f s₁ e s' x) : ExS f s e s' x := by
 obtain ⟨a, h', tk, rfl, rfl, ⟨f1, f2, f3, oe, vs, T, oT, ts, dd, c1, c2, c3, c4, c5, c6, c7, c8, c9, c10, c11, c12, c13⟩, u⟩ := P
 have st : (hideAll f.h₀ (framesOf (f.env :: f.outer))).StaysIn (hideAll s₁.heap (framesOf (f.env :: f.outer))) := fun b o q => by
  refine hideAll_get _ (k b o (of_hideAll _ q)) fun hm => ?_
  rw [hideAll_none _ hm] at q; cases q
 exact ⟨X.trans ⟨h', tk, rfl⟩, a, rfl, .inl ⟨⟨fun b o q => f1 b o (st b o q), fresh_of_stays st f2, funFrames_base st f3, oe, vs, T, oT, ts, dd, c1, c2, c3, fresh_of_stays st c4, c5, c6, c7, c8, fresh_of_stays st c9, c10, c11, c12, c13⟩,
  (Heap.UpToSlots.of_keeps k).trans u⟩⟩
noncomputable abbrev DO (f : Fm) (oa : Option Addr) (s : Shared) (Q : Flow -> Shared -> Prop) (E : Value -> Shared -> Prop) (r : Rs Out) : Prop := Dn (fun fl s' o => Post f oa s fl s' o) (ExS f s) Q E r
noncomputable def StOk (f : Fm) (st : Stmt) (c : Cm) : Prop :=
 ∀ (oa : Option Addr) (σ : Sg) (s : Shared) (Q : Flow -> Shared -> Prop) (E : Value -> Shared -> Prop), St f oa σ s.heap -> PassesOwn (Mw f.W.w) f.A f.env E -> DO f oa s Q E (exc f.cf f.K c σ) -> wpAny (Mw f.W.w) f.A (exec st f.env) Q E s
noncomputable def SsOk (f : Fm) (l : List Stmt) (c : Cm) : Prop :=
 ∀ (oa : Option Addr) (σ : Sg) (s : Shared) (Q : Flow -> Shared -> Prop) (E : Value -> Shared -> Prop), St f oa σ s.heap -> PassesOwn (Mw f.W.w) f.A f.env E -> DO f oa s Q E (exc f.cf f.K c σ) -> wpAny (Mw f.W.w) f.A (execs l f.env) Q E s
section
variable {f : Fm}
theorem exS_id {s : Shared} : ∀ e s' x, ExS f s e s' x -> ExS f s e s' x := fun _ _ _ h => h
theorem exS_sm {s s₁ : Shared} (X : Sm s s₁) : ∀ e s' x, ExS f s₁ e s' x -> ExS f s e s' x := fun _ _ _ h => h.ext X
theorem exS_of {oa : Option Addr} {σ : Sg} {s : Shared} (S : St f oa σ s.heap) : ∀ e s' x, ExF f s e s' x -> ExS f s e s' x := fun _ _ _ h => ExS.of (Sm.refl s) S.keep h
theorem exS_grow {oa : Option Addr} {σ : Sg} {s s₁ : Shared} (G : Grow s s₁) (S : St f oa σ s.heap) : ∀ e s' x, ExF f s₁ e s' x -> ExS f s e s' x := fun _ _ _ h => ExS.of (Sm.grow G) (S.grow G).keep h
theorem dn_to {α β : Type} {T : β -> Shared -> α -> Prop} {X : Value -> Shared -> Xc -> Prop} {Q K : β -> Shared -> Prop} {E : Value -> Shared -> Prop} {r : Rs α} (D : Dn T X Q E r) (h : ∀ v s', Q v s' -> K v s') : Dn T X K E r := by
 cases r with
 | ok x => exact fun v s' t => h v s' (D v s' t)
 | _ => exact D
theorem DO.ext {oa oa₁ : Option Addr} {s s₁ : Shared} {Q : Flow -> Shared -> Prop} {E : Value -> Shared -> Prop} {r : Rs Out} (D : DO f oa s Q E r) (X : Ext f oa oa₁ s s₁) : DO f oa₁ s₁ Q E r := dn_mono D (fun _ _ _ P => P.ext X) (exS_sm X.same)
theorem Rp.extS {oa oa' : Option Addr} {σ : Sg} {s s' : Shared} {v : Value} {x : PyData} (S : St f oa σ s.heap) (X : Ext f oa oa' s s') (r : Rp f oa s.heap v x) : Rp f oa' s'.heap v x := r.ext S.ns S.oaOk X
theorem ss_nil : SsOk f [] .skip := fun oa σ s Q E S hE D => wpAny_execs_nil (D _ _ ⟨rfl, oa, S, Ext.refl f oa s⟩)
theorem ss_one {st : Stmt} {c : Cm} (H : StOk f st c) : SsOk f [st] c := fun oa σ s Q E S hE D => by
 refine wpAny_execs_cons (H oa σ s _ E S hE (dn_to D fun fl s' h => ?_))
 cases fl with
 | next => exact wpAny_execs_nil h
 | _ => exact h
theorem ss_cons {st : Stmt} {l : List Stmt} {a b : Cm} (H : StOk f st a) (Hl : SsOk f l b) : SsOk f (st :: l) (.seq a b) := fun oa σ s Q E S hE D => by
 refine wpAny_execs_cons (H oa σ s _ E S hE (dn_bind D exS_id fun fl s' o P D => ?_))
 cases o with
 | next σ' =>
  obtain ⟨rfl, oa', S', X⟩ := P
  exact Hl oa' σ' s' _ E S' hE (DO.ext D X)
 | brk σ' => obtain ⟨rfl, P⟩ := P; exact D _ _ ⟨rfl, P⟩
 | cont σ' => obtain ⟨rfl, P⟩ := P; exact D _ _ ⟨rfl, P⟩
 | ret v => obtain ⟨w, rfl, P⟩ := P; exact D _ _ ⟨w, rfl, P⟩
theorem put_ok (O : f.Ok) {i : Nat} {σ : Sg} {v : Value} {y : PyData} {oa : Option Addr} {n : Str} {s : Shared} {Q : Unit -> Shared -> Prop} {E : Value -> Shared -> Prop} (hn : f.cfg.names[i]? = some n) (ho : f.cfg.own ≠ some n)
  (S : St f oa σ s.heap) (R : Rp f oa s.heap v y) (h : ∀ s', St f oa (σ.put i y) s'.heap -> Ext f oa oa s s' -> Q () s') : wpAny (Mw f.W.w) f.A (storeName f.env n v) Q E s := by
 have hm : n ∈ f.cfg.names := List.mem_of_getElem? hn
 obtain ⟨m, F, he, hw⟩ := id S
 refine wpAny_storeName_local (kind_loc O hm) F.ns (fun h' hns hsb => ?_) (by show (f.scope.kind == .class || (f.scope.kind == .module && f.L != mainGlobals)) = false; rw [O.kind]; rfl)
 have X : Ext f oa oa s { s with heap := h', toks := s.toks + 1 } := ⟨⟨_, _, rfl⟩, fun b o h1 _ e => (hsb.2 b h1).trans e, fun b e => by
  by_cases hb : b = f.L
  ·exfalso
   obtain ⟨o, _, _, q, _⟩ := hns
   have e' : h'.get? b = none := e
   rw [hb] at e'
   have q' : h'.get? f.L = some o := q
   rw [q'] at e'; cases e'
  ·exact (hsb.2 b hb).symm.trans e, .inl rfl⟩
 refine h _ ⟨_, F.set hns hsb, fun j x q => ?_, ?_⟩ X
 ·have q' : (σ.env.set i (some y))[j]? = some (some x) := q
  rw [List.getElem?_set] at q'
  by_cases hij : i = j
  ·rw [if_pos hij] at q'
   split at q'
   ·cases q'
    subst hij
    exact ⟨n, v, hn, ho, by simp, R.extS S X⟩
   ·cases q'
  ·rw [if_neg hij] at q'
   obtain ⟨n', v', h1, h2, h3, h4⟩ := he j x q'
   refine ⟨n', v', h1, h2, ?_, h4.extS S X⟩
   have : n' ≠ n := fun e => by
    subst e
    have hj : j < f.cfg.names.length := (List.getElem?_eq_some_iff.mp h1).1
    have hi : i < f.cfg.names.length := (List.getElem?_eq_some_iff.mp hn).1
    exact hij ((List.getElem?_inj hi O.nodup).mp (hn.trans h1.symm))
   simp [this, h3]
 ·show OwnOk f oa h' _ σ.own
  revert hw
  cases σ.own with
  | none => exact id
  | some xs =>
   rintro ⟨a, its, kk, as, n', h1, h2, h3, h4, h5, h6, h7, h8⟩
   have hne : n' ≠ n := fun e => ho (e ▸ h2)
   refine ⟨a, its, kk, as, n', h1, h2, by simp [hne, h3], (hsb.2 a h6).trans h4, h5, h6, ?_, h8⟩
   refine ReadsAll.but (D := fun b => b = f.L) (fun b o hb e => (hsb.2 b hb).trans e) ?_ h7 fun b hb q => (h8 b hb).2.2 q
   rintro b o vs n rfl e hc hd
   obtain ⟨o', es, ep, h1, h2, _⟩ := F.ns
   rw [h1] at e; cases e; rw [h2] at hd; cases hd
end
section
variable {f : Fm}
theorem st_set (O : f.Ok) {x : Str} {p q : Pos} {e : Expr} {i : Nat} {ce : Ex} (He : EvOk f e ce) (hi : slotOf f.cfg x = some i) (hs : ∀ t l env, swapsWith e t l env = pure false) : StOk f (.Assign [.Name x p] e q) (.set i ce) := by
 intro oa σ s Q E S hE D
 obtain ⟨h1, h2⟩ := slot_name hi
 exact wpAny_Assign_Name (ev_d He S D (exS_of S) fun v s₁ y G R D => put_ok O h1 h2 (S.grow G) R fun s' S' X => D _ _ ⟨rfl, oa, S', (Ext.grow G).trans X⟩) (hs _ _ _)
theorem st_aug (O : f.Ok) {x : Str} {p q : Pos} {op : Operator} {o : O2} {e : Expr} {i : Nat} {ce : Ex} (He : EvOk f e ce) (hi : slotOf f.cfg x = some i) (ho : augOf op = some o) : StOk f (.AugAssign (.Name x p) op e q) (.aug i o ce) := by
 intro oa σ s Q E S hE D
 have hop : op = o2To o /\ (o = .add \/ o = .sub) := by
  cases op <;> first | (cases ho; done) | (cases ho; exact ⟨rfl, .inl rfl⟩) | (cases ho; exact ⟨rfl, .inr rfl⟩)
 obtain ⟨rfl, ho'⟩ := hop
 obtain ⟨h1, h2⟩ := slot_name hi
 obtain ⟨m, v, y, F, hm, k3, k4, D'⟩ := ld_slot O hi S D
 refine wpAny_AugAssign_Name (ldnX F k3 (ev_d He S D' (exS_of S) fun w s₁ z G R D => ?_) O.kind (kind_loc O hm))
 obtain ⟨as, ra, ca⟩ := k4.stays G.stays
 obtain ⟨bs, rb, cb⟩ := R
 exact snd_iop2 D ra rb (fun v' s₂ r G₂ R₂ D => put_ok O h1 h2 ((S.grow G).grow G₂) (Rp.nil R₂) fun s' S' X => D _ _ ⟨rfl, oa, S', (Ext.grow (G.trans G₂)).trans X⟩) ho'
theorem st_ite {t : Expr} {a b : List Stmt} {p : Pos} {ct : Ex} {ca cb : Cm} (Ht : TrOk f t ct) (Ha : SsOk f a ca) (Hb : SsOk f b cb) : StOk f (.If t a b p) (.ite ct ca cb) := by
 intro oa σ s Q E S hE D
 refine wpAny_If (tr_d Ht S D (exS_of S) fun x s₁ G D => ?_)
 cases x
 ·exact Hb oa σ s₁ _ _ (S.grow G) hE (DO.ext D (Ext.grow G))
 ·exact Ha oa σ s₁ _ _ (S.grow G) hE (DO.ext D (Ext.grow G))
theorem st_wh {t : Expr} {a : List Stmt} {p : Pos} {ct : Ex} {ca : Cm} (Ht : TrOk f t ct) (Ha : SsOk f a ca) : StOk f (.While t a [] p) (.wh ct ca) := by
 intro oa σ s Q E S hE D
 refine wpAny_While (codeAny_whileLoop (fun n s' => ∃ oa' σ', St f oa' σ' s'.heap /\ Ext f oa oa' s s' /\ DO f oa s Q E (loopW (fun σ => (ev f.cf σ ct).bind boolOf) (exc f.cf f.K ca) n σ')) ?_ f.K ⟨oa, σ, S, Ext.refl f oa s, D⟩)
 rintro n s' ⟨oa', σ', S', X, D⟩
 cases n with
 | zero => exact D.elim
 | succ n =>
 refine wpAny_passesOwn hE (Ht oa' σ' s' _ _ S' (dn_bind D (fun _ _ _ Y => ExS.of X.same S'.keep Y) fun b s₁ x t D => ?_))
 obtain ⟨G, rfl⟩ := t
 have X₁ := X.trans (Ext.grow G)
 cases b with
 | false => exact wpAny_execs_nil (D _ _ ⟨rfl, oa', S'.grow G, X₁⟩)
 | true =>
 show wpAny _ _ _ _ _ _
 refine wpAny_passesOwn hE (Ha oa' σ' s₁ _ _ (S'.grow G) hE (dn_bind D (exS_sm X₁.same) fun fl s₂ o P D => ?_))
 cases o with
 | next σ₂ => obtain ⟨rfl, oa₂, S₂, X₂⟩ := P; exact ⟨n, Nat.lt_succ_self n, oa₂, σ₂, S₂, X₁.trans X₂, D⟩
 | cont σ₂ => obtain ⟨rfl, oa₂, S₂, X₂⟩ := P; exact ⟨n, Nat.lt_succ_self n, oa₂, σ₂, S₂, X₁.trans X₂, D⟩
 | brk σ₂ => obtain ⟨rfl, oa₂, S₂, X₂⟩ := P; exact D _ _ ⟨rfl, oa₂, S₂, X₁.trans X₂⟩
 | ret v => obtain ⟨w, rfl, R, k, Y⟩ := P; exact D _ _ ⟨w, rfl, R, k, X₁.same.trans Y⟩
theorem RpV.ret {oa : Option Addr} {s : Shared} {v : Value} {x : V} (r : RpV f oa s v x) : RetOk f s v x := by
 cases x with
 | d x => obtain ⟨as, ra, c⟩ := r; exact ⟨as, ra, fun b hb => (c b hb).1⟩
 | exc x => exact r
theorem st_ret {e : Expr} {p : Pos} {ce : Ex} (He : EvOk f e ce) : StOk f (.Return (some e) p) (.ret ce) := by
 intro oa σ s Q E S hE D
 exact wpAny_Return_some (He oa σ s _ _ S (dn_bind D (exS_of S) fun v s₁ x t D => D _ _ ⟨v, rfl, t.2.ret, (S.grow t.1).keep, Sm.grow t.1⟩))
theorem st_brk {p : Pos} : StOk f (.Break p) .brk := fun oa σ s Q E S hE D => wpAny_Break (D _ _ ⟨rfl, oa, S, Ext.refl f oa s⟩)
theorem st_cont {p : Pos} : StOk f (.Continue p) .cont := fun oa σ s Q E S hE D => wpAny_Continue (D _ _ ⟨rfl, oa, S, Ext.refl f oa s⟩)
theorem st_raise (O : f.Ok') {e : Expr} {p : Pos} {ce : Ex} (He : EvOk f e ce) : StOk f (.Raise (some e) none p) (.raise ce) := by
 intro oa σ s Q E S hE D
 show wpAny (Mw f.W.w) f.A (do standAt p; raiseStmt f.env (some (do let v <- eval e f.env; standAt p; pure v)) none) Q E s
 refine wpAny_bind (wpAny_standAt ?_)
 have go : ∀ x : Xc, DV f oa s (fun v s₁ => wpAny (Mw f.W.w) f.A (do standAt p; pure v) (fun v s₁ => ∃ e h₀, v = .ref e /\ NewX f.W.C h₀ s₁.heap e x /\ f.W.hR.StaysIn s₁.heap /\ E (.ref e) s₁) E s₁) E (ev f.cf σ ce) -> wpAny (Mw f.W.w) f.A (raiseStmt f.env (some (do let v <- eval e f.env; standAt p; pure v)) none) Q E s :=
  fun x D' => O.raise_ f.A f.env _ s Q E x O.toOk.A_handled (wpAny_bind (He oa σ s _ _ S D'))
 have D : DO f oa s Q E ((ev f.cf σ ce).bind fun v => match v with | .exc x => .exc x | _ => .stuck) := D
 cases hr : ev f.cf σ ce with
 | stuck => rw [hr] at D; exact D.elim
 | exc x =>
  rw [hr] at D
  refine go x ?_
  rw [hr]
  exact fun e s' h => D e s' (exS_of S _ _ _ h)
 | ok y =>
  rw [hr] at D
  cases y with
  | d y => exact D.elim
  | exc x =>
  refine go x ?_
  rw [hr]
  rintro v s₁ ⟨G, e, rfl, N⟩
  refine wpAny_bind (wpAny_standAt (wpAny_pure ⟨e, f.h₀, rfl, N, O.toOk.hR (S.grow G), D _ _ ⟨Sm.grow G, e, rfl, .inr ⟨N, ?_⟩⟩⟩))
  obtain ⟨m, F, _⟩ := S.grow G
  exact ⟨m, F⟩
end
section
variable {f : Fm}
theorem RpAll.cons_inv {oa : Option Addr} {h : Heap} {v : Value} {vs : List Value} {x : PyData} {xs : List PyData} (r : RpAll f oa h (v :: vs) (x :: xs)) : Rp f oa h v x /\ RpAll f oa h vs xs := by
 obtain ⟨as, ra, c⟩ := r
 cases ra with
 | cons h1 h2 => exact ⟨⟨_, h1, fun b hb => c b (by simp [hb])⟩, ⟨_, h2, fun b hb => c b (by simp [hb])⟩⟩
theorem RpAll.ext {oa oa' : Option Addr} {σ : Sg} {s s' : Shared} (S : St f oa σ s.heap) (X : Ext f oa oa' s s') {vs : List Value} {xs : List PyData} (r : RpAll f oa s.heap vs xs) : RpAll f oa' s'.heap vs xs := by
 induction xs generalizing vs with
 | nil =>
  obtain ⟨as, ra, -⟩ := r
  obtain ⟨rfl, -⟩ := rda_nil ra
  exact ⟨[], .nil, nofun⟩
 | cons x xs ih =>
  obtain ⟨as, ra, g⟩ := r
  obtain ⟨v, ws, _, _, rfl, -, -, -⟩ := rda_cons ra
  have r : RpAll f oa s.heap (v :: ws) (x :: xs) := ⟨as, ra, g⟩
  obtain ⟨as, ra, ca⟩ := r.cons_inv.1.extS S X
  obtain ⟨bs, rb, cb⟩ := ih r.cons_inv.2
  exact ⟨as ++ bs, .cons ra rb, fun b hb => (List.mem_append.mp hb).elim (ca b) (cb b)⟩
theorem RpAll.len {oa : Option Addr} {h : Heap} {vs : List Value} {xs : List PyData} (r : RpAll f oa h vs xs) : vs.length = xs.length := let ⟨_, ra, _⟩ := r; reads_len (vs := vs) ra
theorem slots_cons {c : Cf} {t : Expr} {ts : List Expr} {is : List Nat} (h : slotsOf c (t :: ts) = some is) : ∃ x p i l, t = .Name x p /\ slotOf c x = some i /\ slotsOf c ts = some l /\ is = i :: l := by
 obtain ⟨x, h1, h⟩ := bnd h
 obtain ⟨i, h2, h⟩ := bnd h
 obtain ⟨l, h3, rfl⟩ := mpd h
 obtain ⟨p, rfl⟩ := asName_eq h1
 exact ⟨x, p, i, l, rfl, h2, h3, rfl⟩
theorem slots_each {c : Cf} {env : Env} : ∀ {ts : List Expr} {is : List Nat}, slotsOf c ts = some is -> (assignEach ts env).length = ts.length /\ (assignEach ts env).findIdx? (·.1) = none /\ is.length = ts.length
 | [], is, h => by cases h; exact ⟨rfl, rfl, rfl⟩
 | t :: ts, is, h => by
  obtain ⟨x, p, i, l, rfl, -, h2, rfl⟩ := slots_cons h
  obtain ⟨a, b, c⟩ := slots_each (env := env) h2
  refine ⟨congrArg Nat.succ a, ?_, congrArg Nat.succ c⟩
  show List.findIdx? _ ((false, _) :: assignEach ts env) = none
  rw [List.findIdx?_cons]
  simp [b]
theorem puts_ok (O : f.Ok) : ∀ {ts : List Expr} {is : List Nat} {vs : List Value} {xs : List PyData} {σ σ' : Sg} {oa : Option Addr} {s : Shared} {Q : Unit -> Shared -> Prop} {E : Value -> Shared -> Prop},
  slotsOf f.cfg ts = some is -> σ.puts is xs = some σ' -> St f oa σ s.heap -> RpAll f oa s.heap vs xs -> (∀ s', St f oa σ' s'.heap -> Ext f oa oa s s' -> Q () s') ->
  wpAny (Mw f.W.w) f.A (assignInOrder ((assignEach ts f.env).map (·.2)) vs) Q E s
 | [], is, vs, xs, σ, σ', oa, s, Q, E, hi, hp, S, R, h => by
  cases hi
  obtain ⟨-, hp⟩ := ifd hp
  cases hp
  exact assignInOrder_nil (h s S (Ext.refl f oa s))
 | t :: ts, is, vs, xs, σ, σ', oa, s, Q, E, hi, hp, S, R, h => by
  obtain ⟨x, p, i, l, rfl, h1, h2, rfl⟩ := slots_cons hi
  cases xs with
  | nil => cases hp
  | cons y ys =>
  cases vs with
  | nil => obtain ⟨_, ra, _⟩ := R; nomatch ra
  | cons v vs =>
  obtain ⟨r1, r2⟩ := R.cons_inv
  obtain ⟨g1, g2⟩ := slot_name h1
  show wpAny (Mw f.W.w) f.A (assignInOrder (assign (.Name x p) f.env :: (assignEach ts f.env).map (·.2)) (v :: vs)) Q E s
  exact assignInOrder_cons (assign_Name (put_ok O g1 g2 S r1 fun s' S' X => puts_ok O h2 hp S' (r2.ext S X) fun s'' S'' X' => h s'' S'' (X.trans X')))
theorem puts_len : ∀ {is : List Nat} {xs : List PyData} {σ σ' : Sg}, σ.puts is xs = some σ' -> is.length = xs.length
 | [], xs, _, _, h => by
  obtain ⟨h, -⟩ := ifd h
  rw [List.isEmpty_iff.mp h]; rfl
 | i :: is, [], _, _, h => by cases h
 | i :: is, x :: xs, σ, _, h => congrArg Nat.succ (puts_len (σ := σ.put i x) h)
theorem stays_of_extBut {h h' : Heap} (e : Heap.ExtBut h.objs.size h h') : h.StaysIn h' := fun b o q => e b o (Nat.ne_of_lt (Heap.lt_size q)) q
theorem sole {t e : Expr} {l : Nat} {env : Env} (h : swapsWith e (some t) l env = pure false) : swapsWithSole [t] e l env = pure false := by
 have : swapsWithSole [t] e l env = swapsWith e (some t) l env := by with_unfolding_all rfl
 rw [this]; exact h
theorem tup_puts {oa : Option Addr} {s s₁ : Shared} {Q : Flow -> Shared -> Prop} {E : Value -> Shared -> Prop} {σ : Sg} {is : List Nat} {v : Value} {y : PyData} (R : Rp f oa s₁.heap v y) (D : DO f oa s Q E ((tupD y).bind fun xs => Rs.opt (σ.puts is xs) fun σ' => .ok (.next σ'))) :
  ∃ xs t items σ', v = .ref t /\ IsTup s₁.heap t items /\ RpAll f oa s₁.heap items.toList xs /\ σ.puts is xs = some σ' /\ ∀ fl s', Post f oa s fl s' (.next σ') -> Q fl s' := by
 replace D := dn_of tup_takes D
 obtain ⟨xs, rfl, D⟩ := D
 obtain ⟨σ', hp, D⟩ := dn_some D
 obtain ⟨as, ra, c⟩ := R
 obtain ⟨t, items, rfl, ht, hr⟩ := rd_tup ra
 obtain ⟨o, h1, h2, n, h3⟩ := ht
 exact ⟨xs, t, items, σ', rfl, ⟨o, h1, h2, n, h3⟩, ⟨as, hr, c⟩, hp, D⟩
theorem two_vals {oa : Option Addr} {h : Heap} {l : List Value} {x y : PyData} (r : RpAll f oa h l [x, y]) : ∃ v w, l = [v, w] /\ Rp f oa h v x /\ Rp f oa h w y := by
 obtain ⟨as, ra, c⟩ := r
 obtain ⟨v, ws, bs, cs, rfl, r1, r2, rfl⟩ := rda_cons ra
 obtain ⟨w, rfl, r3⟩ := rda_one r2
 exact ⟨v, w, rfl, ⟨bs, r1, fun b hb => c b (List.mem_append_left _ hb)⟩, ⟨cs, r3, fun b hb => c b (List.mem_append_right _ hb)⟩⟩
theorem st_setT (O : f.Ok) {ts : List Expr} {k tp} {q : Pos} {e : Expr} {is : List Nat} {ce : Ex} (He : EvOk f e ce) (hi : slotsOf f.cfg ts = some is) (hs : ∀ t l env, swapsWith e t l env = pure false)
  (hw : swappedStores [.Tuple ts k tp] e f.env = pure none) : StOk f (.Assign [.Tuple ts k tp] e q) (.setT is ce) := by
 intro oa σ s Q E S hE D
 refine Assign_Tuple (ev_d He S D (exS_of S) fun v s₁ y G R D => ?_) (sole (hs _ _ _)) hw
 obtain ⟨xs, t, items, σ', rfl, ht, hr, hp, hQ⟩ := tup_puts R D
 obtain ⟨a1, a2, a3⟩ := slots_each (env := f.env) hi
 have hlen : (assignEach ts f.env).length = items.size := by rw [a1, <- a3, puts_len hp, <- hr.len]; simp
 refine assign_Tuple_tuple O.A_handled ht hlen a2 fun h' he => ?_
 have G₂ : Grow s₁ { s₁ with heap := h' } := ⟨h', s₁.toks, rfl, stays_of_extBut he⟩
 exact puts_ok O hi hp ((S.grow G).grow G₂) (hr.ext (S.grow G) (Ext.grow G₂)) fun s' S' X => hQ _ _ ⟨rfl, oa, S', ((Ext.grow G).trans (Ext.grow G₂)).trans X⟩
theorem st_setT2 (O : f.Ok) {x y : Str} {p p' tp : Pos} {k : Nat} {q : Pos} {e : Expr} {is : List Nat} {ce : Ex} (He : EvOk f e ce) (hi : slotsOf f.cfg [.Name x p, .Name y p'] = some is) (hs : ∀ t l env, swapsWith e t l env = pure false) (hne : x ≠ y)
  (hw : swappedStores [.Tuple [.Name x p, .Name y p'] k tp] e f.env = pure (some [x, y])) : StOk f (.Assign [.Tuple [.Name x p, .Name y p'] k tp] e q) (.setT is ce) := by
 intro oa σ s Q E S hE D
 refine Assign_Tuple_swapped (ev_d He S D (exS_of S) fun v s₁ z G R D => ?_) (sole (hs _ _ _)) hw
 obtain ⟨xs, t, items, σ', rfl, ht, hr, hp, hQ⟩ := tup_puts R D
 obtain ⟨_, _, i, l, e1, h1, h2, rfl⟩ := slots_cons hi
 cases e1
 obtain ⟨_, _, j, l', e2, h3, h4, rfl⟩ := slots_cons h2
 cases e2
 cases h4
 have hl := puts_len hp
 match xs, hl, hp, hr with
 | [x₁, x₂], _, hp, hr =>
 cases hp
 have hsz : [x, y].length = items.size := by rw [<- Array.length_toList, hr.len]; rfl
 rw [show unpackItems (.ref t) [x, y].length none = unpackItems (.ref t) items.size none by rw [hsz]]
 refine unpackItems_tuple O.A_handled ht fun h' he => ?_
 have G₂ : Grow s₁ { s₁ with heap := h' } := ⟨h', s₁.toks, rfl, stays_of_extBut he⟩
 have S' := (S.grow G).grow G₂
 obtain ⟨v₁, v₂, hv, r1, r2⟩ := two_vals (hr.ext (S.grow G) (Ext.grow G₂))
 rw [hv]
 obtain ⟨g1, g2⟩ := slot_name h1
 obtain ⟨g3, g4⟩ := slot_name h3
 have hij : i ≠ j := fun e => by rw [e, g3] at g1; cases g1; exact hne rfl
 show wpAny (Mw f.W.w) f.A (assignInOrder [fun v => bindName f.env y v, fun v => bindName f.env x v] [v₂, v₁]) (fun _ => Q .next) E _
 refine assignInOrder_cons (bindName_ (put_ok O g3 g4 S' r2 fun s₂ S₂ X₂ => ?_))
 refine assignInOrder_cons (bindName_ (put_ok O g1 g2 S₂ (r1.extS S' X₂) fun s₃ S₃ X₃ => ?_))
 refine assignInOrder_nil (hQ _ _ ⟨rfl, oa, ?_, (((Ext.grow G).trans (Ext.grow G₂)).trans X₂).trans X₃⟩)
 have : (σ.put j x₂).put i x₁ = (σ.put i x₁).put j x₂ := by
  unfold Sg.put
  simp only
  rw [List.set_comm _ _ hij]
 rw [<- this]
 exact S₃
end
section
variable {f : Fm}
noncomputable def swapG (b1 b2 : Bool) (names : List Str) (b3 b4 : Bool) : Sem (Option (List Str)) :=
 if b1 then pure none else if b2 then pure none else if names.length != 2 || names.eraseDups.length != names.length then pure none else if b3 then pure none
 else if b4 then unsupported "assign.tuple-of-constant-expressions:order-of-the-stores" else pure (some names)
theorem swapG_eq {x y : Str} {p q : Pos} {a b : Expr} {k tp k' tp'} {env : Env} (hx : env.kindOf x = some .local) (hy : env.kindOf y = some .local) :
  swappedStores [.Tuple [.Name x p, .Name y q] k tp] (.Tuple [a, b] k' tp') env = swapG (env.blockKind != .function) (isStar a || (isStar b || false)) (if q.line == p.line then [x, y] else [x]) ([a, b].all (foldedForSure 8)) ([a, b].all (constantsAlone 8)) := by
 have e : ([Expr.Name x p, Expr.Name y q].filterMap fun
  | .Name z pos => if env.kindOf z == some .local && pos.line == p.line then some z else none
  | _ => none) = if q.line == p.line then [x, y] else [x] := by
  refine (List.filterMap_cons_some (b := x) ?_).trans ?_
  ·exact if_pos (by rw [hx, beq_self_eq_true, beq_self_eq_true]; rfl)
  cases hq : q.line == p.line
  ·refine congrArg (x :: ·) (List.filterMap_cons_none ?_)
   exact if_neg (by rw [hq, Bool.and_false]; decide)
  ·refine congrArg (x :: ·) (List.filterMap_cons_some (b := y) ?_)
   exact if_pos (by rw [hy, hq, beq_self_eq_true]; rfl)
 rw [<- e]
 with_unfolding_all rfl
theorem swapped_two (O : f.Ok) {x y : Str} {p q : Pos} {a b : Expr} {k tp k' tp'} (hx : x ∈ f.cfg.names) (hy : y ∈ f.cfg.names) (h : okSw a b = true)
  (ha : isStar a = false) (hb : isStar b = false) :
  swappedStores [.Tuple [.Name x p, .Name y q] k tp] (.Tuple [a, b] k' tp') f.env = pure none \/ (x ≠ y /\ swappedStores [.Tuple [.Name x p, .Name y q] k tp] (.Tuple [a, b] k' tp') f.env = pure (some [x, y])) := by
 have k3 : f.env.blockKind = .function := by
  have h : f.env.scope.kind = .function := O.kind
  unfold Env.blockKind
  rw [h]
  rfl
 rw [swapG_eq (kind_loc O hx) (kind_loc O hy), k3, ha, hb]
 cases q.line == p.line with
 | false => exact .inl rfl
 | true =>
  by_cases hxy : x = y
  ·subst hxy
   refine .inl ?_
   show (if ([x, x].length != 2 || [x, x].eraseDups.length != [x, x].length) = true then pure none else _) = _
   rw [if_pos (by simp [List.eraseDups_cons])]
  ·have he : [x, y].eraseDups = [x, y] := by
    have : (y == x) = false := by simpa using Ne.symm hxy
    simp [List.eraseDups_cons, this]
   have e : swapG ((.function : ScopeKind) != .function) (false || (false || false)) (if true = true then [x, y] else [x]) ([a, b].all (foldedForSure 8)) ([a, b].all (constantsAlone 8)) = if [a, b].all (foldedForSure 8) then pure none else if [a, b].all (constantsAlone 8) then unsupported "assign.tuple-of-constant-expressions:order-of-the-stores" else pure (some [x, y]) := by
    show (if ([x, y].length != 2 || [x, y].eraseDups.length != [x, y].length) = true then pure none else _) = _
    rw [if_neg (by rw [he]; intro q; cases q)]
    rfl
   rw [e]
   unfold okSw at h
   rw [Bool.or_eq_true, Bool.not_eq_true'] at h
   rcases h with h | h
   ·rw [h]; exact .inl rfl
   ·rw [h]
    cases [a, b].all (foldedForSure 8) with
    | true => exact .inl rfl
    | false => exact .inr ⟨hxy, rfl⟩
end
section
variable {f : Fm}
theorem Rp.apart {oa : Option Addr} {h h' : Heap} {I : Addr} {v : Value} {x : PyData} (hI : ∃ o vs, h.get? I = some o /\ o.data = .fields vs) (k : ∀ b o, b ≠ I -> h.get? b = some o -> h'.get? b = some o) (r : Rp f oa h v x) : Rp f oa h' v x := by
 obtain ⟨as, ra, c⟩ := r
 obtain ⟨o, vs, h1, h2⟩ := hI
 refine ⟨as, Reads.but (D := fun b => b = I) k ?_ ra fun b hb q => ?_, c⟩
 ·rintro b o' vs' n rfl e _ hd
  rw [h1] at e; cases e; rw [h2] at hd; cases hd
 ·obtain ⟨o', g1, g2⟩ := Reads.like ra b hb
  rw [q, h1] at g1; cases g1
  exact g2 _ h2
theorem St.apart {oa : Option Addr} {σ : Sg} {h h' : Heap} {I : Addr} (hI : ∃ o vs, h.get? I = some o /\ o.data = .fields vs) (h0 : f.h₀.get? I = none) (k : ∀ b o, b ≠ I -> h.get? b = some o -> h'.get? b = some o) (S : St f oa σ h) : St f oa σ h' := by
 obtain ⟨m, F, he, ho⟩ := S
 obtain ⟨oI, vs, h1, h2⟩ := id hI
 have hL : f.L ≠ I := fun q => by
  obtain ⟨o, es, ep, g1, g2, _⟩ := F.ns
  rw [q, h1] at g1; cases g1; rw [h2] at g2; cases g2
 refine ⟨m, ⟨F.ns.at' fun o e => k _ o hL e, fun b o e => k b o (fun q => by rw [q, h0] at e; cases e) (F.keep b o e), F.above⟩, fun i x q => ?_, ?_⟩
 ·obtain ⟨n, v, a, b, c, d⟩ := he i x q
  exact ⟨n, v, a, b, c, d.apart hI k⟩
 ·revert ho
  cases σ.own with
  | none => exact id
  | some xs =>
   rintro ⟨a, its, kk, as, n, g1, g2, g3, g4, g5, g6, g7, g8⟩
   refine ⟨a, its, kk, as, n, g1, g2, g3, k _ _ (fun q => ?_) g4, g5, g6, ?_, g8⟩
   ·rw [q, h1] at g4; cases g4; cases h2
   ·refine ReadsAll.but (D := fun b => b = I) k ?_ g7 fun b hb q => ?_
    ·rintro b o' vs' n rfl e _ hd
     rw [h1] at e; cases e; rw [h2] at hd; cases hd
    ·obtain ⟨o', q1, q2⟩ := ReadsAll.like g7 b hb
     rw [q, h1] at q1; cases q1
     exact q2 _ h2
theorem for_walk (O : f.Ok) {x : Str} {p : Pos} {body : List Stmt} {I : Addr} {fp : List Addr} {n : Nat} {P : Nat -> Value -> Prop} {W₀ : Nat -> Heap -> Prop} {i : Nat} {cb : Cm}
  (W : Walks PySem.Challenge.pw_oj0060_01 f.W.w f.A I fp [I] n P W₀)
  (hI : ∀ k h, W₀ k h -> ∃ o vs, h.get? I = some o /\ o.data = .fields vs)
  (hfp : ∀ k h, W₀ k h -> ∀ b ∈ fp, ∃ o, h.get? b = some o /\ o.cls ≠ .type "list" /\ ∀ es ep, o.data ≠ .dict es ep)
  {xs : List PyData} (hlen : xs.length = n) (hP : ∀ k v, k < n -> P k v -> ∃ d, xs[k]? = some d /\ ∀ h, Reads h v d [])
  (hi : slotOf f.cfg x = some i) (Hb : SsOk f body cb)
  {oa : Option Addr} {σ : Sg} {s₀ s : Shared} {Q : Flow -> Shared -> Prop} {E : Value -> Shared -> Prop} (hs₀ : s₀.heap.get? I = none) (h0 : f.h₀.get? I = none) (S : St f oa σ s.heap) (hw : W₀ 0 s.heap) (X : Ext f oa oa s₀ s)
  (hE : PassesOwn (Mw f.W.w) f.A f.env E) (D : DO f oa s₀ Q E (loopL i (exc f.cf f.K cb) xs σ)) :
  codeAny (Mw f.W.w) f.A (.forLoop (.Name x p) (.ref I) body [] f.env) (fun r s' => match r with | .ok fl => Q fl s' | .error e => cameBackBy (Mw f.W.w) f.A f.env E e s') s := by
 refine codeAny_forLoop (fun m s' => ∃ k oa' σ', m + k = n /\ W₀ k s'.heap /\ St f oa' σ' s'.heap /\ Ext f oa oa' s₀ s' /\ DO f oa s₀ Q E (loopL i (exc f.cf f.K cb) (xs.drop k) σ')) ?_ n
  ⟨0, oa, σ, rfl, hw, S, X, D⟩
 clear D hw S X
 rintro m s' ⟨k, oa', σ', hm, hw, S', X, D⟩
 have step : ∀ h' tk, (∀ b o, b ∉ [I] -> s'.heap.get? b = some o -> h'.get? b = some o) -> St f oa' σ' h' /\ Ext f oa oa' s₀ { s' with heap := h', toks := tk } := by
  intro h' tk hk
  have hk' : ∀ b o, b ≠ I -> s'.heap.get? b = some o -> h'.get? b = some o := fun b o hb e => hk b o (by simpa using hb) e
  refine ⟨S'.apart (hI _ _ hw) h0 hk', ⟨X.same.trans ⟨_, _, rfl⟩, fun b o h1 h2 e => ?_, fun b e => ?_, X.own⟩⟩
  ·exact hk' b o (fun q => by rw [q, hs₀] at e; cases e) (X.keep b o h1 h2 e)
  ·by_cases hb : b = I
   ·rw [hb]; exact hs₀
   ·cases hg : s'.heap.get? b with
    | none => exact X.dom b hg
    | some o =>
     have e' : h'.get? b = none := e
     rw [hk' b o hb hg] at e'; cases e'
 cases m with
 | zero =>
  have : k = n := by lia
  subst this
  rw [List.drop_eq_nil_of_le (by lia)] at D
  refine W.done s' _ _ hw fun h' tk hk => ?_
  obtain ⟨S₁, X₁⟩ := step h' tk hk
  exact wpAny_execs_nil (D _ _ ⟨rfl, oa', S₁, X₁⟩)
 | succ m =>
  refine W.item k s' _ _ (by lia) hw fun v h' tk hv hw₁ hk => ?_
  obtain ⟨S₁, X₁⟩ := step h' tk hk
  obtain ⟨d, hd, hr⟩ := hP k v (by lia) hv
  have hdrop : xs.drop k = d :: xs.drop (k + 1) := by
   obtain ⟨g1, g2⟩ := List.getElem?_eq_some_iff.mp hd
   rw [List.drop_eq_getElem_cons g1, g2]
  rw [hdrop] at D
  clear step hdrop hd hk hw
  have keepW : ∀ {oa₁ oa₂ σ₁} {s₁ s₂ : Shared}, St f oa₁ σ₁ s₁.heap -> Ext f oa₁ oa₂ s₁ s₂ -> W₀ (k + 1) s₁.heap -> W₀ (k + 1) s₂.heap := by
   intro oa₁ oa₂ σ₁ s₁ s₂ S₁ X₂ hw₁
   refine W.frame _ _ _ hw₁ fun b hb o e => ?_
   obtain ⟨o', q1, q2, q3⟩ := hfp _ _ hw₁ b hb
   refine X₂.keep b o (fun q => ?_) (fun q => ?_) e
   ·obtain ⟨_, om, es, ep, r1, r2, _⟩ := S₁.ns
    rw [q, r1] at q1; cases q1; exact q3 _ _ r2
   ·obtain ⟨its, kk, r1⟩ := S₁.oaOk b q
    rw [r1] at q1; cases q1; exact q2 rfl
  obtain ⟨g1, g2⟩ := slot_name hi
  refine PyProof.Rows.assign_Name (put_ok O g1 g2 S₁ (Rp.nil (hr _)) fun s₂ S₂ X₂ => ?_)
  have X₁₂ := X₁.trans X₂
  have hw₂ : W₀ (k + 1) s₂.heap := keepW S₁ X₂ hw₁
  refine wpAny_passesOwn hE (Hb oa' (σ'.put i d) s₂ _ _ S₂ hE (dn_bind D (exS_sm X₁₂.same) fun fl s₃ o Pp D => ?_))
  have go : ∀ oa₃ σ₃, St f oa₃ σ₃ s₃.heap -> Ext f oa' oa₃ s₂ s₃ -> DO f oa s₀ Q E (loopL i (exc f.cf f.K cb) (xs.drop (k + 1)) σ₃) ->
    ∃ m', m' < m + 1 /\ ∃ k oa' σ', m' + k = n /\ W₀ k s₃.heap /\ St f oa' σ' s₃.heap /\ Ext f oa oa' s₀ s₃ /\ DO f oa s₀ Q E (loopL i (exc f.cf f.K cb) (xs.drop k) σ') :=
   fun oa₃ σ₃ S₃ X₃ D => ⟨m, Nat.lt_succ_self m, k + 1, oa₃, σ₃, by lia, keepW S₂ X₃ hw₂, S₃, X₁₂.trans X₃, D⟩
  cases o with
  | next σ₃ => obtain ⟨rfl, oa₃, S₃, X₃⟩ := Pp; exact go oa₃ σ₃ S₃ X₃ D
  | cont σ₃ => obtain ⟨rfl, oa₃, S₃, X₃⟩ := Pp; exact go oa₃ σ₃ S₃ X₃ D
  | brk σ₃ => obtain ⟨rfl, oa₃, S₃, X₃⟩ := Pp; exact D _ _ ⟨rfl, oa₃, S₃, X₁₂.trans X₃⟩
  | ret v => obtain ⟨w, rfl, R, kp, Y⟩ := Pp; exact D _ _ ⟨w, rfl, R, kp, X₁₂.same.trans Y⟩
end
section
variable {f : Fm}
theorem h0_size {oa : Option Addr} {σ : Sg} {h : Heap} (S : St f oa σ h) : f.h₀.get? h.objs.size = none := by
 cases hg : f.h₀.get? h.objs.size with
 | none => rfl
 | some o => exact absurd (Heap.lt_size (S.keep _ o hg)) (Nat.lt_irrefl _)
theorem ext_push {oa : Option Addr} (s : Shared) (o : Obj) : Ext f oa oa s { s with heap := s.heap.push o } := Ext.grow (Grow.push s o)
theorem walk_str (O : f.Ok) {x : Str} {p : Pos} {body : List Stmt} {i : Nat} {cb : Cm} {y : Str} {t : Tok} (hi : slotOf f.cfg x = some i) (Hb : SsOk f body cb)
  {oa : Option Addr} {σ : Sg} {s₀ s : Shared} {Q : Flow -> Shared -> Prop} {E : Value -> Shared -> Prop} (S : St f oa σ s.heap) (G : Grow s₀ s) (hE : PassesOwn (Mw f.W.w) f.A f.env E)
  (D : DO f oa s₀ Q E (loopL i (exc f.cf f.K cb) (y.cps.toList.map fun c => .str (sing c)) σ)) :
  wpAny (Mw f.W.w) f.A (pyIter (.str y t)) (fun it s₂ => codeAny (Mw f.W.w) f.A (.forLoop (.Name x p) it body [] f.env) (fun r s' => match r with | .ok fl => Q fl s' | .error e => cameBackBy (Mw f.W.w) f.A f.env E e s') s₂) E s := by
 have hP : ∀ k v, k < y.cps.size -> SignAt y k v -> ∃ d, (y.cps.toList.map fun c => PyData.str (sing c))[k]? = some d /\ ∀ h, Reads h v d [] := by
  rintro k v _ ⟨c, u, h1, rfl⟩
  refine ⟨.str (sing c), ?_, fun h => .str _ _⟩
  rw [List.getElem?_map]
  have : y.cps.toList[k]? = some c := by simpa using h1
  rw [this]; rfl
 have hs₀ : s₀.heap.get? s.heap.objs.size = none := fresh_of_stays G.stays (get_size _)
 have hlen : (y.cps.toList.map fun c => PyData.str (sing c)).length = y.cps.size := by simp
 have K : ∀ (T : String), T ≠ "list" -> ∀ (k : Nat) (h : Heap), h.IsStrIter s.heap.objs.size T y t k -> ∀ b ∈ [s.heap.objs.size], ∃ o, h.get? b = some o /\ o.cls ≠ .type "list" /\ ∀ es ep, o.data ≠ .dict es ep := by
  rintro T hT k h ⟨o, h1, h2, h3⟩ b hb
  rw [List.mem_singleton] at hb
  subst hb
  exact ⟨o, h1, by rw [h2]; intro q; cases q; exact hT rfl, fun es ep q => by rw [h3] at q; cases q⟩
 have J : ∀ (T : String), ∀ (k : Nat) (h : Heap), h.IsStrIter s.heap.objs.size T y t k -> ∃ o vs, h.get? s.heap.objs.size = some o /\ o.data = .fields vs := by
  rintro T k h ⟨o, h1, h2, h3⟩
  exact ⟨o, _, h1, h3⟩
 cases ha : y.cps.all (· < 128)
 ·exact wpAny_pyIter_wide ha (for_walk O (Walks.strWide O.A_handled _ y t) (J _) (K _ (by decide)) hlen hP hi Hb hs₀ (h0_size S) (S.grow (Grow.push s _)) ⟨_, Heap.get?_push_size _ rfl, rfl, rfl⟩ ((Ext.grow G).trans (ext_push s _)) hE D)
 ·exact wpAny_pyIter_ascii ha (for_walk O (Walks.strAscii O.A_handled _ y t) (J _) (K _ (by decide)) hlen hP hi Hb hs₀ (h0_size S) (S.grow (Grow.push s _)) ⟨_, Heap.get?_push_size _ rfl, rfl, rfl⟩ ((Ext.grow G).trans (ext_push s _)) hE D)
theorem flat_takes (x : PyData) (h : flat x = true) : (∃ i, x = .int i) \/ ∃ y, x = .str y := by
 cases x with
 | int i => exact .inl ⟨i, rfl⟩
 | str y => exact .inr ⟨y, rfl⟩
 | _ => cases h
theorem flat_any {h : Heap} {v : Value} {x : PyData} {as : List Addr} (r : Reads h v x as) (hf : flat x = true) (h' : Heap) : Reads h' v x [] := by
 rcases flat_takes x hf with ⟨i, rfl⟩ | ⟨y, rfl⟩
 ·obtain ⟨t, rfl⟩ := rd_int r; exact .int _ _
 ·obtain ⟨t, rfl⟩ := rd_str r; exact .str _ _
theorem strs_flat {h : Heap} {vs : List Value} {l : List PyData} {as : List Addr} (r : ReadsAll h vs l as) (hl : l.all flat = true) (k : Nat) (v : Value) (e : vs[k]? = some v) : ∃ d, l[k]? = some d /\ ∀ h, Reads h v d [] := by
 have hk : k < l.length := by rw [<- reads_len r]; exact (List.getElem?_eq_some_iff.mp e).1
 obtain ⟨w, bs, h1, h2, -⟩ := reads_get r (List.getElem?_eq_getElem hk)
 rw [e] at h1
 cases h1
 exact ⟨_, List.getElem?_eq_getElem hk, flat_any h2 (List.all_eq_true.mp hl _ (List.getElem_mem hk))⟩
theorem walk_tuple (O : f.Ok) {x : Str} {p : Pos} {body : List Stmt} {i : Nat} {cb : Cm} {l : List PyData} {a : Addr} {items : Array Value} {as : List Addr} (hi : slotOf f.cfg x = some i) (Hb : SsOk f body cb)
  {oa : Option Addr} {σ : Sg} {s₀ s : Shared} {Q : Flow -> Shared -> Prop} {E : Value -> Shared -> Prop} (S : St f oa σ s.heap) (G : Grow s₀ s) (hE : PassesOwn (Mw f.W.w) f.A f.env E)
  (ht : s.heap.IsTuple a items) (ra : ReadsAll s.heap items.toList l as) (hl : l.all flat = true)
  (D : DO f oa s₀ Q E (loopL i (exc f.cf f.K cb) l σ)) :
  wpAny (Mw f.W.w) f.A (pyIter (.ref a)) (fun it s₂ => codeAny (Mw f.W.w) f.A (.forLoop (.Name x p) it body [] f.env) (fun r s' => match r with | .ok fl => Q fl s' | .error e => cameBackBy (Mw f.W.w) f.A f.env E e s') s₂) E s := by
 have hs₀ : s₀.heap.get? s.heap.objs.size = none := fresh_of_stays G.stays (get_size _)
 have hne : a ≠ s.heap.objs.size := by obtain ⟨o, ho, _⟩ := ht; exact Nat.ne_of_lt (Heap.lt_size ho)
 refine wpAny_pyIter_tuple ht (for_walk O (Walks.tuple O.A_handled _ a hne items) ?_ ?_ (reads_len ra).symm ?_ hi Hb hs₀ (h0_size S) (S.grow (Grow.push s _)) ⟨⟨_, Heap.get?_push_size _ rfl, rfl, rfl⟩, ?_⟩ ((Ext.grow G).trans (ext_push s _)) hE D)
 ·rintro k h ⟨⟨o, h1, h2, h3⟩, _⟩
  exact ⟨o, _, h1, h3⟩
 ·rintro k h ⟨⟨o, h1, h2, h3⟩, ⟨o', g1, g2, n, g3⟩⟩ b hb
  rcases List.mem_cons.mp hb with rfl | hb
  ·exact ⟨o, h1, by rw [h2]; simp, fun es ep q => by rw [h3] at q; cases q⟩
  ·rw [List.mem_singleton] at hb
   subst hb
   exact ⟨o', g1, by rw [g2]; simp, fun es ep q => by rw [g3] at q; cases q⟩
 ·intro k v _ hv
  exact strs_flat ra hl k v (by simpa using hv)
 ·obtain ⟨o, g1, g2, n, g3⟩ := ht
  exact ⟨o, Heap.get?_push_of_some _ g1, g2, n, g3⟩
theorem items_takes (y : PyData) : (∃ x, y = .str x /\ itemsD y = if x.cps.size <= big then .ok (x.cps.toList.map fun c => .str (sing c)) else .stuck) \/ (∃ l, y = .tuple l /\ itemsD y = if l.all flat then .ok l else .stuck) \/ itemsD y = .stuck := by
 cases y with
 | str x => exact .inl ⟨x, rfl, rfl⟩
 | tuple l => exact .inr (.inl ⟨l, rfl, rfl⟩)
 | _ => exact .inr (.inr rfl)
theorem st_forE (O : f.Ok) {x : Str} {p q : Pos} {e : Expr} {b : List Stmt} {i : Nat} {ce : Ex} {cb : Cm} (He : EvOk f e ce) (hi : slotOf f.cfg x = some i) (Hb : SsOk f b cb) (hf : ∀ env v, foldedSetIterable e env v = pure v) :
  StOk f (.For (.Name x p) e b [] q) (.forE i ce cb) := by
 intro oa σ s Q E S hE D
 refine wpAny_For (ev_d He S D (exS_of S) fun v s₁ y G R D => ?_) (fun v => hf _ v)
 obtain ⟨as, ra, c⟩ := R
 rcases items_takes y with ⟨x, rfl, h⟩ | ⟨l, rfl, h⟩ | h
 ·rw [h] at D
  replace D := dn_if2 D
  obtain ⟨t, rfl⟩ := rd_str ra
  exact walk_str O hi Hb (S.grow G) G hE D.2
 ·rw [h] at D
  replace D := dn_if2 D
  obtain ⟨a, vs, rfl, ht, hr⟩ := rd_tup ra
  exact walk_tuple O hi Hb (S.grow G) G hE ht hr D.1 D.2
 ·rw [h] at D; exact D.elim
theorem range_len (n : Int) : (rangeD n).length = n.toNat := by unfold rangeD; simp
theorem range_small {n : Int} (h0 : 0 <= n) (h : n < 2 ^ 62) : Builtin.Range.small 0 n 1 = true := small_one (by decide) (by decide) (by lia) h
theorem st_forR (O : f.Ok) {x : Str} {p q cp np : Pos} {e : Expr} {b : List Stmt} {i : Nat} {ce : Ex} {cb : Cm} (He : EvOk f e ce) (hi : slotOf f.cfg x = some i) (Hb : SsOk f b cb) (hx : ("range" : Str) ∈ f.cfg.globs)
  (hs : starEach [e] f.env = (false, eval e f.env) :: starEach [] f.env) :
  StOk f (.For (.Name x p) (.Call (.Name "range" np) [e] [] cp) b [] q) (.forR i ce cb) := by
 intro oa σ s Q E S hE D
 obtain ⟨m, F, _, _⟩ := id S
 refine wpAny_For (Call_ (ldbX F (O.wf.g.keeps O.below.stays) O.wf.range.1 (O.wf.b.keeps O.below.stays) O.wf.range.2 ?_ O.kind (kind_glb O hx) (O.glb _ hx).2) rfl) (fun v => rfl)
 refine PyProof.Rows.callWith_type1 (spliced_more (ev_d He S D (exS_of S) fun v s₁ y G R D => spliced_none ?_) hs) hs rfl
 replace D := dn_of int_takes D
 obtain ⟨n, rfl, D⟩ := D
 replace D := dn_if D
 obtain ⟨hz, D⟩ := D
 rw [Bool.and_eq_true] at hz
 obtain ⟨h0, h1⟩ := okN_le hz.1
 obtain ⟨as, ra, c⟩ := R
 obtain ⟨t, rfl⟩ := rd_int ra
 refine call_range_1 ?_
 have S₁ := S.grow G
 have Gp : Grow s₁ { s₁ with heap := s₁.heap.push { cls := .type "range", data := .fields #[.int 0 s₁.toks, .int n t, .int 1 (s₁.toks + 1)] }, toks := s₁.toks + 1 + 1 } := Grow.pushTok s₁ _ _
 have S₂ := S₁.grow Gp
 refine wpAny_pyIter_range (IsRange.new _ _ _ _ _ _ _) (range_small h0 h1) ?_
 have hsz : Builtin.Range.rangeSize 0 n 1 = n := by rw [rangeSize_one]; split <;> lia
 generalize hs₂ : ({ s₁ with heap := s₁.heap.push { cls := .type "range", data := .fields #[.int 0 s₁.toks, .int n t, .int 1 (s₁.toks + 1)] }, toks := s₁.toks + 1 + 1 } : Shared) = s₂ at Gp S₂ ⊢
 have G₂ := G.trans Gp
 refine for_walk O (Walks.range O.A_handled _ 0 1 n.toNat) ?_ ?_ (range_len n) ?_ hi Hb (fresh_of_stays G₂.stays (get_size _)) (h0_size S₂) (S₂.grow (Grow.push s₂ _)) ?_ ((Ext.grow G₂).trans (ext_push s₂ _)) hE D
 ·intro k h hr
  exact ⟨_, _, hr, rfl⟩
 ·intro k h hr b hb
  rw [List.mem_singleton] at hb
  subst hb
  exact ⟨_, hr, by simp, fun es ep q => by cases q⟩
 ·rintro k v hk ⟨t, rfl⟩
  refine ⟨.int (0 + k * 1), ?_, fun h => .int _ _⟩
  unfold rangeD
  rw [List.getElem?_map, List.getElem?_range hk]
  simp
 ·show IsRangeIter (s₂.heap.push _) s₂.heap.objs.size _ _ _
  rw [hsz]
  have e1 : (0 : Int) + ((0 : Nat) : Int) * 1 = 0 := by decide
  have e2 : ((n.toNat : Int)) - ((0 : Nat) : Int) = n := by lia
  rw [e1, e2]
  exact Heap.get?_push_size _ rfl
end
noncomputable def Half (f : Fm) (oa : Option Addr) (σ : Sg) (h : Heap) : Prop :=
 ∃ m, Fr f.h₀ f.L h m /\ ∀ (i : Nat) (x : PyData), σ.env[i]? = some (some x) -> ∃ n v, f.cfg.names[i]? = some n /\ f.cfg.own ≠ some n /\ m n = some v /\ Rp f oa h v x
structure Ch (f : Fm) (s s' : Shared) : Prop where
 same : Sm s s'
 keep : ∀ b o, b ≠ f.L -> s.heap.get? b = some o -> s'.heap.get? b = some o
 dom : ∀ b, s'.heap.get? b = none -> s.heap.get? b = none
theorem Ch.trans {f : Fm} {a b c : Shared} (x : Ch f a b) (y : Ch f b c) : Ch f a c := ⟨x.same.trans y.same, fun q o h e => y.keep q o h (x.keep q o h e), fun q e => x.dom q (y.dom q e)⟩
theorem Ch.grow {f : Fm} {s s' : Shared} (g : Grow s s') : Ch f s s' := ⟨Sm.grow g, fun b o _ e => g.stays b o e, fun _ e => fresh_of_stays g.stays e⟩
theorem Ch.ext {f : Fm} {oa : Option Addr} {s s' : Shared} (c : Ch f s s') : Ext f oa oa s s' := ⟨c.same, fun b o h _ e => c.keep b o h e, c.dom, .inl rfl⟩
theorem Ch.fresh {f : Fm} {a : Addr} {s s' : Shared} (c : Ch f s s') (ha : s.heap.get? a = none) : Ext f none (some a) s s' :=
 ⟨c.same, fun b o h _ e => c.keep b o h e, c.dom, .inr ⟨rfl, fun a' q => by cases q; exact ha⟩⟩
section
variable {f : Fm}
theorem Half.stays {oa : Option Addr} {σ : Sg} {h h' : Heap} (H : Half f oa σ h) (k : h.StaysIn h') : Half f oa σ h' := by
 obtain ⟨m, F, he⟩ := H
 refine ⟨m, Fr.stays' F k, fun i x q => ?_⟩
 obtain ⟨n, v, a, b, c, d⟩ := he i x q
 exact ⟨n, v, a, b, c, d.stays k⟩
theorem St.none_own {oa : Option Addr} {σ : Sg} {h : Heap} (S : St f oa σ h) (e : σ.own = none) : oa = none := by
 obtain ⟨m, F, he, ho⟩ := S
 rw [e] at ho
 exact ho
theorem Rp.fresh {h : Heap} {a : Addr} {v : Value} {x : PyData} (ha : h.get? a = none) (r : Rp f none h v x) : Rp f (some a) h v x := by
 obtain ⟨as, ra, c⟩ := r
 refine ⟨as, ra, fun b hb => ⟨(c b hb).1, fun q => ?_, (c b hb).2.2⟩⟩
 injection q with q
 obtain ⟨o, ho, _⟩ := Reads.like ra b hb
 rw [<- q, ha] at ho; cases ho
theorem Half.of {σ : Sg} {h h' : Heap} {a : Addr} (S : St f none σ h) (k : h.StaysIn h') (ha : h.get? a = none) : Half f (some a) σ h' := by
 obtain ⟨m, F, he, ho⟩ := S
 refine Half.stays ⟨m, F, fun i x q => ?_⟩ k
 obtain ⟨n, v, a, b, c, d⟩ := he i x q
 exact ⟨n, v, a, b, c, d.fresh ha⟩
theorem store_half (O : f.Ok) {a : Addr} {σ : Sg} {v : Value} {n : Str} {s : Shared} {Q : Unit -> Shared -> Prop} {E : Value -> Shared -> Prop} (hm : n ∈ f.cfg.names)
  (H : Half f (some a) σ s.heap) (ha : ∃ its k, s.heap.get? a = some ({ cls := .type "list", data := .seq its k } : Obj))
  (h : ∀ s' m m', Fr f.h₀ f.L s'.heap m' -> Fr f.h₀ f.L s.heap m -> m' = (fun y => if y = n then some v else m y) -> (∀ (i : Nat) (x : PyData), σ.env[i]? = some (some x) -> ∃ n v, f.cfg.names[i]? = some n /\ f.cfg.own ≠ some n /\ m n = some v /\ Rp f (some a) s'.heap v x) ->
   Ch f s s' -> (∀ v x, Rp f (some a) s.heap v x -> Rp f (some a) s'.heap v x) -> a ≠ f.L -> Q () s') : wpAny (Mw f.W.w) f.A (storeName f.env n v) Q E s := by
 obtain ⟨m, F, he⟩ := id H
 refine wpAny_storeName_local (kind_loc O hm) F.ns (fun h' hns hsb => ?_) (by show (f.scope.kind == .class || (f.scope.kind == .module && f.L != mainGlobals)) = false; rw [O.kind]; rfl)
 have C : Ch f s { s with heap := h', toks := s.toks + 1 } := ⟨⟨_, _, rfl⟩, fun b o h1 e => (hsb.2 b h1).trans e, fun b e => by
  by_cases hb : b = f.L
  ·exfalso
   obtain ⟨o, _, _, q, _⟩ := hns
   have e' : h'.get? b = none := e
   rw [hb] at e'
   have q' : h'.get? f.L = some o := q
   rw [q'] at e'; cases e'
  ·exact (hsb.2 b hb).symm.trans e⟩
 have R : ∀ v x, Rp f (some a) s.heap v x -> Rp f (some a) ({ s with heap := h', toks := s.toks + 1 } : Shared).heap v x := fun v x r => Rp.ext ⟨m, F.ns⟩ (fun b q => by cases q; exact ha) C.ext r
 have hL : a ≠ f.L := fun q => by
  obtain ⟨its, k, g⟩ := ha
  obtain ⟨o, es, ep, g1, g2, _⟩ := F.ns
  rw [q, g1] at g; cases g; cases g2
 exact h _ m _ (F.set hns hsb) F rfl (fun i x q => let ⟨n, v, a, b, c, d⟩ := he i x q; ⟨n, v, a, b, c, R _ _ d⟩) C R hL
theorem put_half (O : f.Ok) {a : Addr} {i : Nat} {σ : Sg} {v : Value} {y : PyData} {n : Str} {s : Shared} {Q : Unit -> Shared -> Prop} {E : Value -> Shared -> Prop} (hn : f.cfg.names[i]? = some n) (ho : f.cfg.own ≠ some n)
  (H : Half f (some a) σ s.heap) (ha : ∃ its k, s.heap.get? a = some ({ cls := .type "list", data := .seq its k } : Obj)) (Rv : Rp f (some a) s.heap v y)
  (h : ∀ s', Half f (some a) (σ.put i y) s'.heap -> Ch f s s' -> a ≠ f.L -> Q () s') : wpAny (Mw f.W.w) f.A (storeName f.env n v) Q E s := by
 refine store_half O (List.mem_of_getElem? hn) H ha fun s' m m' F' F hm he C R hL => h s' ⟨m', F', fun j x q => ?_⟩ C hL
 subst hm
 have q' : (σ.env.set i (some y))[j]? = some (some x) := q
 rw [List.getElem?_set] at q'
 by_cases hij : i = j
 ·rw [if_pos hij] at q'
  split at q'
  ·cases q'
   subst hij
   exact ⟨n, v, hn, ho, by simp, R _ _ Rv⟩
  ·cases q'
 ·rw [if_neg hij] at q'
  obtain ⟨n', v', h1, h2, h3, h4⟩ := he j x q'
  refine ⟨n', v', h1, h2, ?_, h4⟩
  have : n' ≠ n := fun e => by
   subst e
   have hi : i < f.cfg.names.length := (List.getElem?_eq_some_iff.mp hn).1
   exact hij ((List.getElem?_inj hi O.nodup).mp (hn.trans h1.symm))
  simp [this, h3]
theorem own_half (O : f.Ok) {a : Addr} {k : Nat} {σ : Sg} {n : Str} {s : Shared} {Q : Unit -> Shared -> Prop} {E : Value -> Shared -> Prop} (hn : f.cfg.own = some n)
  (H : Half f (some a) σ s.heap) (ha : s.heap.get? a = some ({ cls := .type "list", data := .seq #[] k } : Obj)) (h0 : f.h₀.get? a = none)
  (h : ∀ s', St f (some a) ⟨σ.env, some []⟩ s'.heap -> Ch f s s' -> Q () s') : wpAny (Mw f.W.w) f.A (storeName f.env n (.ref a)) Q E s := by
 refine store_half O (O.own n hn) H ⟨_, _, ha⟩ fun s' m m' F' F hm he C R hL => h s' ⟨m', F', fun j x q => ?_, ?_⟩ C
 ·obtain ⟨n', v', h1, h2, h3, h4⟩ := he j x q
  refine ⟨n', v', h1, h2, ?_, h4⟩
  have : n' ≠ n := fun e => h2 (e ▸ hn)
  rw [hm]
  simp [this, h3]
 ·exact ⟨a, #[], k, [], n, rfl, hn, by rw [hm]; simp, C.keep _ _ hL ha, h0, hL, .nil, fun b hb => nomatch hb⟩
theorem st_mkOwn (O : f.Ok) {x : Str} {p q : Pos} {e : Expr} (hx : f.cfg.own = some x) (he : isNil e = true) : StOk f (.Assign [.Name x p] e q) .mkOwn := by
 intro oa σ s Q E S hE D
 obtain ⟨p', rfl⟩ := isNil_list he
 replace D := dn_if D
 obtain ⟨ho, D⟩ := D
 have := S.none_own (isNone_eq ho)
 subst this
 refine wpAny_Assign_Name (List_ (spliced_none (wpAny_newList ?_ (by decide)))) rfl
 have G := Grow.push s ({ cls := .type "list", data := .seq ([] : List Value).toArray } : Obj)
 exact own_half O hx (Half.of S G.stays (get_size _)) (Heap.get?_push_size _ rfl) (h0_size S) fun s' S' C => D _ _ ⟨rfl, _, S', ((Ch.grow G).trans C).fresh (get_size _)⟩
end
section
variable {f : Fm}
theorem two_disp {x y : Str} {p q qq tp tp' : Pos} {k k' : Nat} {a b : Expr} {s : Shared} {Q : Flow -> Shared -> Prop} {E : Value -> Shared -> Prop} (hA : f.A.handled = none)
  (hw : swappedStores [.Tuple [.Name x p, .Name y q] k tp] (.Tuple [a, b] k' tp') f.env = pure none \/ (x ≠ y /\ swappedStores [.Tuple [.Name x p, .Name y q] k tp] (.Tuple [a, b] k' tp') f.env = pure (some [x, y])))
  (hs : starEach [a, b] f.env = [(false, eval a f.env), (false, eval b f.env)])
  (h : wpAny (Mw f.W.w) f.A (eval a f.env) (fun va s₁ => wpAny (Mw f.W.w) f.A (eval b f.env) (fun vb s₂ => ∀ s₃, Grow s₂ s₃ ->
   wpAny (Mw f.W.w) f.A (storeName f.env x va) (fun _ s₄ => wpAny (Mw f.W.w) f.A (storeName f.env y vb) (fun _ => Q .next) E s₄) E s₃ /\
   wpAny (Mw f.W.w) f.A (storeName f.env y vb) (fun _ s₄ => wpAny (Mw f.W.w) f.A (storeName f.env x va) (fun _ => Q .next) E s₄) E s₃) E s₁) E s) :
  wpAny (Mw f.W.w) f.A (exec (.Assign [.Tuple [.Name x p, .Name y q] k tp] (.Tuple [a, b] k' tp') qq) f.env) Q E s := by
 have hev : ∀ {Q' : Value -> Shared -> Prop}, (∀ va vb s₂ (s₃ : Shared) t, s₃ = { s₂ with heap := s₂.heap.push { cls := .type "tuple", data := .seq #[va, vb] } } -> t = s₂.heap.objs.size -> (∀ s₃, Grow s₂ s₃ ->
   wpAny (Mw f.W.w) f.A (storeName f.env x va) (fun _ s₄ => wpAny (Mw f.W.w) f.A (storeName f.env y vb) (fun _ => Q .next) E s₄) E s₃ /\
   wpAny (Mw f.W.w) f.A (storeName f.env y vb) (fun _ s₄ => wpAny (Mw f.W.w) f.A (storeName f.env x va) (fun _ => Q .next) E s₄) E s₃) -> Q' (.ref t) s₃) ->
   wpAny (Mw f.W.w) f.A (eval (.Tuple [a, b] k' tp') f.env) Q' E s := by
  intro Q' hQ
  refine Tuple_ ?_
  rw [hs]
  refine Calls.spliced_cons (wpAny_mono h (fun va s₁ h₁ => Calls.spliced_cons (wpAny_mono h₁ (fun vb s₂ h₂ => ?_) fun _ _ e => e)) fun _ _ e => e)
  refine spliced_nil ?_
  exact wpAny_newObj_type (hQ va vb s₂ _ _ rfl rfl h₂) (by size_fits)
 have step : ∀ va vb (s₂ s₃ : Shared) t, s₃ = { s₂ with heap := s₂.heap.push { cls := .type "tuple", data := .seq #[va, vb] } } -> t = s₂.heap.objs.size -> IsTup s₃.heap t #[va, vb] /\ Grow s₂ s₃ := by
  rintro va vb s₂ s₃ t rfl rfl
  exact ⟨⟨_, Heap.get?_push_size _ rfl, rfl, _, rfl⟩, Grow.push s₂ _⟩
 rcases hw with hw | ⟨hne, hw⟩
 ·refine Assign_Tuple (hev fun va vb s₂ s₃ t e1 e2 h₂ => ?_) (sole rfl) hw
  obtain ⟨ht, G⟩ := step va vb s₂ s₃ t e1 e2
  refine assign_Tuple_tuple hA ht rfl rfl fun h' he => ?_
  have G₂ : Grow s₃ { s₃ with heap := h' } := ⟨h', s₃.toks, rfl, stays_of_extBut he⟩
  show wpAny (Mw f.W.w) f.A (assignInOrder [assign (.Name x p) f.env, assign (.Name y q) f.env] [va, vb]) (fun _ => Q .next) E _
  exact assignInOrder_cons (PyProof.Rows.assign_Name (wpAny_mono (h₂ _ (G.trans G₂)).1 (fun _ s₄ h₄ => assignInOrder_cons (PyProof.Rows.assign_Name (wpAny_mono h₄ (fun _ _ h₅ => assignInOrder_nil h₅) fun _ _ e => e))) fun _ _ e => e))
 ·refine Assign_Tuple_swapped (hev fun va vb s₂ s₃ t e1 e2 h₂ => ?_) (sole rfl) hw
  obtain ⟨ht, G⟩ := step va vb s₂ s₃ t e1 e2
  refine unpackItems_tuple (items := #[va, vb]) hA ht fun h' he => ?_
  have G₂ : Grow s₃ { s₃ with heap := h' } := ⟨h', s₃.toks, rfl, stays_of_extBut he⟩
  show wpAny (Mw f.W.w) f.A (assignInOrder [fun v => bindName f.env y v, fun v => bindName f.env x v] [vb, va]) (fun _ => Q .next) E _
  exact assignInOrder_cons (bindName_ (wpAny_mono (h₂ _ (G.trans G₂)).2 (fun _ s₄ h₄ => assignInOrder_cons (bindName_ (wpAny_mono h₄ (fun _ _ h₅ => assignInOrder_nil h₅) fun _ _ e => e))) fun _ _ e => e))
theorem st_mkOwnA (O : f.Ok) {x y : Str} {p q qq tp tp' : Pos} {k k' : Nat} {a b : Expr} {i : Nat} {cb : Ex} (hx : f.cfg.own = some x) (ha : isNil a = true) (hi : slotOf f.cfg y = some i) (Hb : EvOk f b cb) (hsw : okSw a b = true)
  (hst : ∀ env, starEach [a, b] env = [(false, eval a env), (false, eval b env)]) (nb : isStar b = false) : StOk f (.Assign [.Tuple [.Name x p, .Name y q] k tp] (.Tuple [a, b] k' tp') qq) (.mkOwnA i cb) := by
 intro oa σ s Q E S hE D
 obtain ⟨p', rfl⟩ := isNil_list ha
 replace D := dn_if D
 obtain ⟨ho, D⟩ := D
 have := S.none_own (isNone_eq ho)
 subst this
 obtain ⟨g1, g2⟩ := slot_name hi
 refine two_disp O.A_handled (swapped_two O (O.own x hx) (List.mem_of_getElem? g1) hsw rfl nb) (hst _) (List_ (spliced_none (wpAny_newList ?_ (by decide))))
 have G := Grow.push s ({ cls := .type "list", data := .seq ([] : List Value).toArray } : Obj)
 have hget := Heap.get?_push_size s.heap (o := ({ cls := .type "list", data := .seq ([] : List Value).toArray } : Obj)) rfl
 generalize hs₁ : ({ s with heap := s.heap.push { cls := .type "list", data := .seq ([] : List Value).toArray } } : Shared) = s₁ at G ⊢
 have hget₁ : s₁.heap.get? s.heap.objs.size = some ({ cls := .type "list", data := .seq #[] } : Obj) := by rw [<- hs₁]; exact hget
 clear hs₁ hget
 refine ev_d Hb (S.grow G) D (exS_grow G S) fun vb s₂ y G₂ R D => ?_
 replace D := dn_if D
 obtain ⟨hf, D⟩ := D
 obtain ⟨as, ra, _⟩ := R
 intro s₃ G₃
 have Gall := (G.trans G₂).trans G₃
 have H := Half.of S Gall.stays (get_size s.heap)
 have hg₃ : s₃.heap.get? s.heap.objs.size = some ({ cls := .type "list", data := .seq #[] } : Obj) := (G₂.trans G₃).stays _ _ hget₁
 have Rv : ∀ h, Rp f (some s.heap.objs.size) h vb y := fun h => Rp.nil (flat_any ra hf h)
 exact ⟨own_half O hx H hg₃ (h0_size S) fun s₄ S₄ C₄ => put_ok O g1 g2 S₄ (Rv _) fun s₅ S₅ X₅ => D _ _ ⟨rfl, _, S₅, (((Ch.grow Gall).trans C₄).fresh (get_size _)).trans X₅⟩,
  put_half O g1 g2 H ⟨_, _, hg₃⟩ (Rv _) fun s₄ H₄ C₄ hL => own_half O hx H₄ (C₄.keep _ _ hL hg₃) (h0_size S) fun s₅ S₅ C₅ => D _ _ ⟨rfl, _, S₅, (((Ch.grow Gall).trans C₄).trans C₅).fresh (get_size _)⟩⟩
theorem st_mkOwnB (O : f.Ok) {x y : Str} {p q qq tp tp' : Pos} {k k' : Nat} {a b : Expr} {i : Nat} {ca : Ex} (hy : f.cfg.own = some y) (hb : isNil b = true) (hi : slotOf f.cfg x = some i) (Ha : EvOk f a ca) (hsw : okSw a b = true)
  (hst : ∀ env, starEach [a, b] env = [(false, eval a env), (false, eval b env)]) (na : isStar a = false) : StOk f (.Assign [.Tuple [.Name x p, .Name y q] k tp] (.Tuple [a, b] k' tp') qq) (.mkOwnB i ca) := by
 intro oa σ s Q E S hE D
 obtain ⟨p', rfl⟩ := isNil_list hb
 replace D := dn_if D
 obtain ⟨ho, D⟩ := D
 have := S.none_own (isNone_eq ho)
 subst this
 obtain ⟨g1, g2⟩ := slot_name hi
 refine two_disp O.A_handled (swapped_two O (List.mem_of_getElem? g1) (O.own y hy) hsw na rfl) (hst _) (ev_d Ha S D (exS_of S) fun va s₁ z G R D => List_ (spliced_none (wpAny_newList ?_ (by decide))))
 have S₁ := S.grow G
 have G₁ := Grow.push s₁ ({ cls := .type "list", data := .seq ([] : List Value).toArray } : Obj)
 have hget := Heap.get?_push_size s₁.heap (o := ({ cls := .type "list", data := .seq ([] : List Value).toArray } : Obj)) rfl
 intro s₃ G₃
 have G₁₃ := G₁.trans G₃
 have Gall := G.trans G₁₃
 have H := Half.of S₁ G₁₃.stays (get_size s₁.heap)
 have hg₃ : s₃.heap.get? s₁.heap.objs.size = some ({ cls := .type "list", data := .seq #[] } : Obj) := G₃.stays _ _ hget
 have Rv : Rp f (some s₁.heap.objs.size) s₃.heap va z := (Rp.fresh (get_size _) R).stays G₁₃.stays
 have hfr : s.heap.get? s₁.heap.objs.size = none := fresh_of_stays G.stays (get_size _)
 exact ⟨put_half O g1 g2 H ⟨_, _, hg₃⟩ Rv fun s₄ H₄ C₄ hL => own_half O hy H₄ (C₄.keep _ _ hL hg₃) (h0_size S₁) fun s₅ S₅ C₅ => D _ _ ⟨rfl, _, S₅, (((Ch.grow Gall).trans C₄).trans C₅).fresh hfr⟩,
  own_half O hy H hg₃ (h0_size S₁) fun s₄ S₄ C₄ => put_ok O g1 g2 S₄ (Rp.ext (let ⟨m, F, _⟩ := H; ⟨m, F.ns⟩) (fun b q => by cases q; exact ⟨_, _, hg₃⟩) C₄.ext Rv) fun s₅ S₅ X₅ => D _ _ ⟨rfl, _, S₅, (((Ch.grow Gall).trans C₄).fresh hfr).trans X₅⟩⟩
end
theorem ReadsAll.one {h : Heap} {v : Value} {x : PyData} {as : List Addr} (r : Reads h v x as) : ReadsAll h [v] [x] as := by
 have := ReadsAll.cons r ReadsAll.nil
 rwa [List.append_nil] at this
theorem ReadsAll.dropLast {h : Heap} {vs : List Value} {xs : List PyData} {as : List Addr} (r : ReadsAll h vs xs as) : ∃ bs, ReadsAll h vs.dropLast xs.dropLast bs /\ ∀ b ∈ bs, b ∈ as := by
 rw [List.dropLast_eq_take, List.dropLast_eq_take, reads_len r]
 exact ReadsAll.takes _ r
section
variable {f : Fm}
theorem own_set {a : Addr} {σ : Sg} {h h' : Heap} {xs xs' : List PyData} {its' : Array Value} {k' : Nat} {as' : List Addr} (S : St f (some a) σ h) (ho : σ.own = some xs) (k : ∀ b o, b ≠ a -> h.get? b = some o -> h'.get? b = some o)
  (ha' : h'.get? a = some ({ cls := .type "list", data := .seq its' k' } : Obj)) (hr : ReadsAll h its'.toList xs' as') (hg : ∀ b ∈ as', GoodA f (some a) b) : St f (some a) ⟨σ.env, some xs'⟩ h' := by
 obtain ⟨m, F, he, hw⟩ := id S
 rw [ho] at hw
 obtain ⟨a₁, its, kk, as, n, g1, g2, g3, g4, g5, g6, g7, g8⟩ := hw
 cases g1
 have nt : ∀ b o vs n, b = a -> h.get? b = some o -> o.cls = .type "tuple" -> o.data = .seq vs n -> False := by
  rintro b o vs n rfl e hc _
  rw [g4] at e; cases e; simp at hc
 refine ⟨m, ⟨F.ns.at' fun o e => k _ o (Ne.symm g6) e, fun b o e => k b o (fun q => by rw [q, g5] at e; cases e) (F.keep b o e), F.above⟩, fun i x q => ?_, ⟨a, its', k', as', n, rfl, g2, g3, ha', g5, g6, ?_, hg⟩⟩
 ·obtain ⟨n, v, a1, b1, c1, as₁, r1, r2⟩ := he i x q
  exact ⟨n, v, a1, b1, c1, as₁, Reads.but (D := fun b => b = a) k nt r1 fun b hb q => (r2 b hb).2.1 (q ▸ rfl), r2⟩
 ·exact ReadsAll.but (D := fun b => b = a) k nt hr fun b hb q => (hg b hb).2.1 (q ▸ rfl)
theorem ext_same {oa : Option Addr} {a : Addr} {s : Shared} {h' : Heap} {o : Obj} (ha : oa = some a) (hs : Heap.SameBut a s.heap h') (hx : h'.get? a = some o) : Ext f oa oa s { s with heap := h' } := by
 refine ⟨⟨_, _, rfl⟩, fun b o h1 h2 e => hs.extBut b o (fun q => h2 (q ▸ ha)) e, fun b e => ?_, .inl rfl⟩
 by_cases hb : b = a
 ·have e' : h'.get? b = none := e
  rw [hb, hx] at e'; cases e'
 ·exact (hs.2 b hb).symm.trans e
theorem st_push (O : f.Ok) {o e : Expr} {m : Str} {ap p q : Pos} {ce : Ex} (ho : isOwn f.cfg o = true) (hm : m = "append") (hk : okM o ap p [e] = true) (He : EvOk f e ce) (hs : ∀ env, starEach [e] env = (false, eval e env) :: starEach [] env) :
  StOk f (.Expr (.Call (.Attribute o m ap) [e] [] p) q) (.push ce) := by
 intro oa σ s Q E S hE D
 subst hm
 replace D := dn_some D
 obtain ⟨xs, hw, D⟩ := D
 obtain ⟨x, px, rfl, hown⟩ := isOwn_name ho
 obtain ⟨k1, k2, k3⟩ := okM_all hk
 refine wpAny_Expr_any (MethodCall_ (ld_own O S hw hown fun a its k as h1 h2 h3 h4 h5 => getMethod_list_append h2 rfl rfl ?_) (meth_he k1 k2 k3 (by rw [hs]; rfl))) (by
  have hk : f.env.scope.kind = .function := O.kind
  unfold interactive
  rw [hk]
  rfl) rfl
 refine callWith_method1 (spliced_more (ev_d He S D (exS_of S) fun v s₁ y G R D => spliced_none ?_) (hs _)) (hs _) rfl
 replace D := dn_if D
 obtain ⟨hz, D⟩ := D
 have hsz : its.size = xs.length := by rw [<- reads_len h4]; simp
 subst h1
 obtain ⟨bs, rb, cb⟩ := R
 refine append_at (G.stays _ _ h2) (fun h' hsb hx => ?_) (by rw [hsz]; exact Nat.le_trans (Nat.le_of_lt hz) (by decide))
 exact D _ _ ⟨rfl, some a, own_set (as' := as ++ bs) (S.grow G) hw (fun b o hb e => hsb.extBut b o hb e) hx (by rw [Array.toList_push]; exact ReadsAll.append (ReadsAll.keeps G.stays h4) (ReadsAll.one rb)) fun b hb => (List.mem_append.mp hb).elim (h5 b) (cb b), (Ext.grow G).trans (ext_same rfl hsb hx)⟩
theorem st_retOwn (O : f.Ok) {e : Expr} {p : Pos} (ho : isOwn f.cfg e = true) : StOk f (.Return (some e) p) .retOwn := by
 intro oa σ s Q E S hE D
 replace D := dn_some D
 obtain ⟨xs, hw, D⟩ := D
 obtain ⟨x, px, rfl, hown⟩ := isOwn_name ho
 refine wpAny_Return_some (ld_own O S hw hown fun a its k as h1 h2 h3 h4 h5 => ?_)
 refine D _ _ ⟨_, rfl, ⟨a :: as, .list h2 rfl rfl h4, fun b hb => ?_⟩, S.keep, Sm.refl s⟩
 rcases List.mem_cons.mp hb with rfl | hb
 ·exact .inl h3
 ·exact (h5 b hb).1
theorem own_plus (O : f.Ok) {o e : Expr} {lp bp : Pos} {ce : Ex} {oa : Option Addr} {σ : Sg} {s : Shared} {xs : List PyData} {α β : Type} {T : β -> Shared -> α -> Prop} {X : Value -> Shared -> Xc -> Prop} {Q : β -> Shared -> Prop} {K E : Value -> Shared -> Prop} {g : PyData -> Rs α} (ho : isOwn f.cfg o = true) (He : EvOk f e ce) (hs : starEach [e] f.env = (false, eval e f.env) :: starEach [] f.env)
  (S : St f oa σ s.heap) (hw : σ.own = some xs) (D : Dn T X Q E ((ev f.cf σ ce).bind fun x => x.dat.bind fun x => if xs.length < big then g x else .stuck)) (hX : ∀ e s' x, ExF f s e s' x -> X e s' x)
  (k : ∀ a' s' x, Grow s s' -> f.h₀.get? a' = none -> (∃ as, Reads s'.heap (.ref a') (.list (xs ++ [x])) as /\ ∀ b ∈ as, f.h₀.get? b = none \/ b ∈ f.AA) -> Dn T X Q E (g x) -> K (.ref a') s') :
  wpAny (Mw f.W.w) f.A (eval (.BinOp o .Add (.List [e] lp) bp) f.env) K E s := by
 obtain ⟨x, px, rfl, hown⟩ := isOwn_name ho
 refine wpAny_BinOp (ld_own O S hw hown fun a its kk as h1 h2 h3 h4 h5 => List_ (spliced_more (ev_d He S D hX fun v s₁ y G R D => spliced_none (wpAny_newList ?_ (by show (1 : Nat) <= sizeLine; decide))) hs))
 replace D := dn_if D
 obtain ⟨hlt, D⟩ := D
 have hsz : its.size = xs.length := by rw [<- reads_len h4]; simp
 obtain ⟨bs, rb, cb⟩ := R
 have G₁ := Grow.push s₁ ({ cls := .type "list", data := .seq ([v] : List Value).toArray } : Obj)
 have hget := Heap.get?_push_size s₁.heap (o := ({ cls := .type "list", data := .seq ([v] : List Value).toArray } : Obj)) rfl
 refine P.add_list ((G.trans G₁).stays _ _ h2) hget ?_ (by
  rw [hsz]
  show xs.length + 1 <= sizeLine
  exact Nat.le_trans (Nat.succ_le_of_lt hlt) (by decide))
 generalize hs₂ : ({ s₁ with heap := s₁.heap.push { cls := .type "list", data := .seq ([v] : List Value).toArray } } : Shared) = s₂ at G₁ hget ⊢
 have G₂ := Grow.push s₂ ({ cls := .type "list", data := .seq (its ++ ([v] : List Value).toArray) } : Obj)
 have Gall := (G.trans G₁).trans G₂
 have hn := h0_size (S.grow (G.trans G₁))
 refine k _ _ y Gall hn ⟨s₂.heap.objs.size :: (as ++ bs), .list (Heap.get?_push_size _ rfl) rfl rfl ?_, fun b hb => ?_⟩ D
 ·rw [Array.toList_append]
  exact ReadsAll.append (ReadsAll.keeps Gall.stays h4) (ReadsAll.one (Reads.keeps (G₁.trans G₂).stays rb))
 ·rcases List.mem_cons.mp hb with rfl | hb
  ·exact .inl hn
  ·exact (List.mem_append.mp hb).elim (fun h => (h5 b h).1) (fun h => (cb b h).1)
theorem st_retPush (O : f.Ok) {o e : Expr} {lp bp p : Pos} {ce : Ex} (ho : isOwn f.cfg o = true) (He : EvOk f e ce) (hs : starEach [e] f.env = (false, eval e f.env) :: starEach [] f.env) : StOk f (.Return (some (.BinOp o .Add (.List [e] lp) bp)) p) (.retPush ce) := by
 intro oa σ s Q E S hE D
 replace D := dn_some D
 obtain ⟨xs, hw, D⟩ := D
 exact wpAny_Return_some (own_plus O ho He hs S hw D (exS_of S) fun a' s' x G h0 R D => D _ _ ⟨_, rfl, R, (S.grow G).keep, Sm.grow G⟩)
theorem st_retTPush (O : f.Ok) {w o e : Expr} {lp bp tp p : Pos} {k : Nat} {cw ce : Ex} (Hw : EvOk f w cw) (ho : isOwn f.cfg o = true) (He : EvOk f e ce) (hs : starEach [e] f.env = (false, eval e f.env) :: starEach [] f.env)
  (hsw : ∀ r, starEach (w :: r) f.env = (false, eval w f.env) :: starEach r f.env) :
  StOk f (.Return (some (.Tuple [w, .BinOp o .Add (.List [e] lp) bp] k tp)) p) (.retTPush cw ce) := by
 intro oa σ s Q E S hE D
 replace D := dn_some D
 obtain ⟨xs, hw, D⟩ := D
 refine wpAny_Return_some (Tuple_ (spliced_more (ev_d Hw S D (exS_of S) fun v s₁ y G R D => spliced_more (own_plus O ho He hs (S.grow G) hw D (exS_grow G S) fun a' s' x G' h0 R' D => spliced_none (wpAny_newObj_type ?_ (by size_fits))) rfl) (hsw _)))
 have G₂ := Grow.push s' ({ cls := .type "tuple", data := .seq ([v, .ref a'] : List Value).toArray } : Obj)
 have Gall := (G.trans G').trans G₂
 obtain ⟨bs, rb, cb⟩ := R
 obtain ⟨as, ra, ca⟩ := R'
 exact D _ _ ⟨_, rfl, ⟨bs ++ as, .tuple (Heap.get?_push_size _ rfl) rfl rfl (.cons (Reads.keeps (G'.trans G₂).stays rb) (ReadsAll.one (Reads.keeps G₂.stays ra))), fun b hb => (List.mem_append.mp hb).elim (fun h => (cb b h).1) (ca b)⟩, (S.grow Gall).keep, Sm.grow Gall⟩
end
section
variable {prog : Program} {w : World} {A : Around} {E : Value -> Shared -> Prop} {s : Shared}
theorem setItem_m1 {l : Addr} {items : Array Value} {n : Nat} {t : Tok} {v : Value} {Q : Unit -> Shared -> Prop} (hl : s.heap.get? l = some ({ cls := .type "list", data := .seq items n } : Obj)) (hpos : 0 < items.size)
  (hQ : ∀ h' n', h'.get? l = some ({ cls := .type "list", data := .seq (items.setIfInBounds (items.size - 1) v) n' } : Obj) -> Heap.SameBut l s.heap h' -> Q () { s with heap := h' }) :
  wpAny (model prog w) A (setItem (.ref l) (.int (-1) t) v) Q E s := by
 have hL : s.heap.IsList l items := ⟨_, hl, rfl, n, rfl⟩
 unfold setItem
 try with_reducible refine wpAny_holding ?_
 first | refine wpAny_bind (wpAny_pure ?_) | skip
 refine wpAny_bind (wpAny_sequenceKey hL.typeIs (by decide) ?_)
 refine wpAny_bind (wpAny_callSpecial?_slot (name := Str.ofString "__setitem__") hL.typeIs slot_list_setitem
  (wpAny_call_entry slot_list_setitem hL.typeIs entry_list_setitem ?_ (args_list_setitem _ _ _)))
 show wpAny _ _ (Builtin.List.listSubscript? (.int (-1) t) >>= _) _ _ s
 refine wpAny_bind (wpAny_listSubscript_int (fitsIndex_neg (by decide) (by decide)) ?_)
 have hidx : seqIndex? (-1) items.size = some (items.size - 1) := by
  rw [PySem.seqIndex_neg (by decide) (neg_le1 hpos)]
  exact congrArg some (last_ix _)
 have hx' : items[items.size - 1]? = some items[items.size - 1] := Array.getElem?_eq_getElem (Nat.sub_lt hpos Nat.one_pos)
 show wpAny _ _ ((Builtin.List.listItems (.ref l) >>= fun xs => pure ((seqIndex? (Int.negSucc 0) xs.size).bind fun i => xs[i]?.map (i, ·))) >>= _) _ _ s
 refine wpAny_bind (wpAny_bind ?_)
 show wpAny _ _ (seqItems? (.ref l) >>= _) _ _ s
 refine wpAny_bind (wpAny_seqItems hl rfl (wpAny_pure (wpAny_pure ?_)))
 have hidx' : seqIndex? (Int.negSucc 0) items.size = some (items.size - 1) := hidx
 rw [hidx']
 simp only [Option.bind_some, hx', Option.map_some]
 show wpAny _ _ (setSeqItemAt l (items.size - 1) v >>= _) _ _ s
 have hfin : (s.heap.update l (Obj.mapSeq (·.setIfInBounds (items.size - 1) v))).get? l = some ({ cls := .type "list", data := .seq (items.setIfInBounds (items.size - 1) v) n } : Obj) := by
  rw [Heap.get?_update_self _ hl rfl]
  simp [Obj.mapSeq]
 refine wpAny_bind (wpAny_setSeqItemAt hl rfl ?_)
 first
  | exact wpAny_bind (wpAny_pure (wpAny_pure ⟨.none, rfl, wpAny_pure (hQ _ _ hfin (Heap.SameBut.update ..))⟩))
  | exact wpAny_pure ⟨.none, rfl, wpAny_pure (hQ _ _ hfin (Heap.SameBut.update ..))⟩
end
section
variable {f : Fm}
theorem set_last {items : Array Value} {v : Value} : (items.setIfInBounds (items.size - 1) v).toList = if items.size = 0 then [] else items.toList.dropLast ++ [v] := by
 rw [Array.toList_setIfInBounds]
 have : items.size = items.toList.length := by simp
 rw [this]
 generalize items.toList = l
 rcases List.eq_nil_or_concat l with rfl | ⟨l, b, rfl⟩
 ·rfl
 ·simp [List.set_append]
theorem st_setLast (O : f.Ok) {o i e : Expr} {p q : Pos} {ce : Ex} (ho : isOwn f.cfg o = true) (hi : isM1 i = true) (He : EvOk f e ce) (hs : ∀ t l env, swapsWith e t l env = pure false) :
  StOk f (.Assign [.Subscript o i p] e q) (.setLast ce) := by
 intro oa σ s Q E S hE D
 replace D := dn_some D
 obtain ⟨xs, hw, D⟩ := D
 obtain ⟨x, px, rfl, hown⟩ := isOwn_name ho
 obtain ⟨k, p₁, p₂, rfl⟩ := isM1_eq hi
 refine wpAny_Assign_Subscript (ev_d He S D (exS_of S) fun v s₁ y G R D => ?_) (hs _ _ _)
 have S₁ := S.grow G
 refine ld_own O S₁ hw hown fun a its kk as h1 h2 h3 h4 h5 => UnaryOp_ (wpAny_Constant_int (PyProof.Rows.neg_int ?_))
 have hsz : its.size = xs.length := by rw [<- reads_len h4]; simp
 cases xs with
 | nil => exact D.elim
 | cons z xs =>
 have hpos : 0 < its.size := by rw [hsz]; exact Nat.succ_pos _
 subst h1
 have Gt : Grow s₁ { s₁ with toks := s₁.toks + 1 + 1 } := Grow.tok s₁ _
 obtain ⟨bs, rb, cb⟩ := R
 obtain ⟨ds, rd, kd⟩ := ReadsAll.dropLast h4
 refine setItem_m1 (s := { s₁ with toks := s₁.toks + 1 + 1 }) h2 hpos fun h' n' hg hsb => ?_
 exact D _ _ ⟨rfl, some a, own_set (as' := ds ++ bs) (S₁.grow Gt) hw (fun b o hb e => hsb.extBut b o hb e) hg (by rw [set_last, if_neg (Nat.ne_of_gt hpos)]; exact ReadsAll.append rd (ReadsAll.one rb)) fun b hb => (List.mem_append.mp hb).elim (fun h => h5 b (kd b h)) (cb b), ((Ext.grow G).trans (Ext.grow Gt)).trans (ext_same rfl hsb hg)⟩
end
theorem heardCall_eq {c : Cf} {e e' : Expr} {i : Nat} (h : heardCall c e = some (i, e')) : c.hd = true /\ ∃ g q r p, e = .Call (.Name "_law_heard" q) [.Name g r, e'] [] p /\ ("_law_heard" : Str) ∈ c.globs /\ g ∈ c.globs /\ c.fns.findIdx? (· == g) = some i := by
 replace h := bnd h
 obtain ⟨⟨fn, l, p⟩, h1, h⟩ := h
 replace h := bnd h
 obtain ⟨f, h2, h⟩ := h
 replace h := bnd h
 obtain ⟨⟨ge, e₀⟩, h3, h⟩ := h
 replace h := bnd h
 obtain ⟨g, h4, h⟩ := h
 replace h := ifd h
 obtain ⟨hc, h⟩ := h
 obtain ⟨j, h5, h6⟩ := mpd h
 cases h6
 rw [Bool.and_eq_true, Bool.and_eq_true, Bool.and_eq_true] at hc
 obtain ⟨hd, hf, hg1, hg2⟩ := hc
 have := beq_iff_eq.mp hf
 subst this
 obtain ⟨q, rfl⟩ := asName_eq h2
 obtain ⟨r, rfl⟩ := asName_eq h4
 have e1 : l = [.Name g r, e₀] := two_some h3
 subst e1
 exact ⟨hd, g, q, r, p, asCall_eq h1, by simpa using hg1, by simpa using hg2, h5⟩
section
variable {f : Fm}
theorem St.growF {oa : Option Addr} {σ : Sg} {s s' : Shared} (ho : f.outer = []) (S : St f oa σ s.heap) (G : GrowF (f.env :: f.outer) s s') : St f oa σ s'.heap /\ Ext f oa oa s s' := by
 obtain ⟨h', tk, rfl, k, u⟩ := G
 have hfr : framesOf (f.env :: f.outer) = [f.L] := by rw [ho]; rfl
 rw [hfr] at k
 have k' : ∀ b o, b ≠ f.L -> s.heap.get? b = some o -> h'.get? b = some o := fun b o hb q => k b o (by simpa using hb) q
 have hL : f.h₀.get? f.L = none := by
  obtain ⟨m, F, _⟩ := S
  cases hq : f.h₀.get? f.L with
  | none => rfl
  | some o => exact absurd (Nat.lt_of_lt_of_le (Heap.lt_size hq) F.above) (Nat.lt_irrefl _)
 have X : Ext f oa oa s { s with heap := h', toks := tk } := by
  refine ⟨⟨_, _, rfl⟩, fun b o h1 _ q => k' b o h1 q, fun b q => ?_, .inl rfl⟩
  cases hg : s.heap.get? b with
  | none => rfl
  | some o =>
   have q' : h'.get? b = none := q
   by_cases hb : b = f.L
   ·obtain ⟨m, o', es, ep, g1, g2, _⟩ := S.ns
    obtain ⟨sl, e⟩ := u f.L o' g1 (fun vs z => by rw [g2] at z; cases z)
    rw [<- hb, q'] at e; cases e
   ·rw [k' b o hb hg] at q'; cases q'
 refine ⟨?_, X⟩
 obtain ⟨m, F, he, hw⟩ := id S
 refine ⟨m, ⟨u.ns F.ns, fun b o q => k' b o (fun z => by rw [z, hL] at q; cases q) (F.keep b o q), F.above⟩, fun i x q => ?_, ?_⟩
 ·obtain ⟨n, v, a, b, c, d⟩ := he i x q
  exact ⟨n, v, a, b, c, d.extS S X⟩
 ·revert hw
  cases σ.own with
  | none => exact id
  | some xs =>
   rintro ⟨a, its, kk, as, n, g1, g2, g3, g4, g5, g6, g7, g8⟩
   refine ⟨a, its, kk, as, n, g1, g2, g3, k' _ _ g6 g4, g5, g6, ReadsAll.but (D := fun b => b = f.L) (fun b o hb e => k' b o hb e) ?_ g7 (fun b hb q => (g8 b hb).2.2 q), g8⟩
   obtain ⟨m', o', es, ep, q1, q2, _⟩ := S.ns
   rintro b o vs n rfl e _ hd
   rw [q1] at e; cases e; rw [q2] at hd; cases hd
theorem heard_eval (O : f.Ok) {α β : Type} {T : β -> Shared -> α -> Prop} {X : Value -> Shared -> Xc -> Prop} {Q : β -> Shared -> Prop} {K E : Value -> Shared -> Prop} {g : PyData -> Rs α} {oa : Option Addr} {σ : Sg} {s : Shared} {l e : Expr} {i : Nat} {ce : Ex} (hl : heardCall f.cfg l = some (i, e)) (He : EvOk f e ce) (hs : ∀ env, starEach [e] env = (false, eval e env) :: starEach [] env) (h52 : f.cfg.fns.findIdx? (· == ("_law_heard" : Str)) = some 52)
  (S : St f oa σ s.heap) (D : Dn T X Q E ((ev f.cf σ ce).bind fun x => x.dat.bind fun x => (heardR (f.cf i [x])).bind fun y => y.dat.bind g)) (hX : ∀ e s' x, ExF f s e s' x -> X e s' x)
  (k : ∀ w s' y, St f oa σ s'.heap -> Ext f oa oa s s' -> Rp f oa s'.heap w y -> Dn T X Q E (g y) -> K w s') :
  wpAny (Mw f.W.w) f.A (eval l f.env) K E s := by
 obtain ⟨hd, g, q, r, p, rfl, hx, hg, hi⟩ := heardCall_eq hl
 obtain ⟨m, F, _, _⟩ := id S
 obtain ⟨a, o, fd, g1, g2, g3⟩ := O.callee _ hx 52 h52
 obtain ⟨a', o', fd', g1', g2', g3'⟩ := O.callee g hg i hi
 obtain ⟨ho, hd1, hd2, H⟩ := O.heard hd
 refine Call_ (ldgX F (O.wf.g.keeps O.below.stays) g1 ?_ O.kind (kind_glb O hx) (O.glb _ hx).2) rfl
 refine callWith_def_at g2 g3 (spliced_more (ldgX F (O.wf.g.keeps O.below.stays) g1' (spliced_more (ev_d He S D hX fun v s₁ y G R D => spliced_none ?_) (hs _)) O.kind (kind_glb O hg) (O.glb _ hg).2) rfl) rfl
 have S₁ := S.grow G
 obtain ⟨as, ra, c⟩ := R
 refine ⟨O.hR S₁ _ _ g2, H i y f.A (f.env :: f.outer) s₁ a a' v as K E O.A_handled hd1 hd2 O.frames (O.hR S₁) (O.funFrames S₁) g1 (by rw [fns_name O hi]; exact g1') ra (dn_dat D (fun _ _ _ h => h.elim) fun w s' z t D => ?_)⟩
 obtain ⟨G', bs, rb, kk⟩ := t
 obtain ⟨S₂, X₂⟩ := S₁.growF ho G'
 exact k w s' z S₂ ((Ext.grow G).trans X₂) ⟨bs, rb, fun b hb => (kk b hb).elim (good_new S₁) (c b)⟩ D
theorem st_heardS (O : f.Ok) {x : Str} {p q : Pos} {l e : Expr} {i j : Nat} {ce : Ex} (hl : heardCall f.cfg l = some (i, e)) (He : EvOk f e ce) (hs : ∀ env, starEach [e] env = (false, eval e env) :: starEach [] env) (h52 : f.cfg.fns.findIdx? (· == ("_law_heard" : Str)) = some 52)
  (hi : slotOf f.cfg x = some j) : StOk f (.Assign [.Name x p] l q) (.heardS j i ce) := by
 intro oa σ s Q E S hE D
 have hsw : ∀ t n env, swapsWith l t n env = pure false := by
  obtain ⟨_, g, q, r, p, rfl, _⟩ := heardCall_eq hl
  intro t n env; rfl
 obtain ⟨h1, h2⟩ := slot_name hi
 exact wpAny_Assign_Name (heard_eval O hl He hs h52 S D (exS_of S) fun w s' y S' X R D => put_ok O h1 h2 S' R fun s₂ S₂ X₂ => D _ _ ⟨rfl, oa, S₂, X.trans X₂⟩) (hsw _ _ _)
theorem st_heardIf (O : f.Ok) {y : Str} {p q r : Pos} {l e : Expr} {a b : List Stmt} {i j : Nat} {ce : Ex} {ca cb : Cm} (hl : heardCall f.cfg l = some (i, e)) (He : EvOk f e ce) (hs : ∀ env, starEach [e] env = (false, eval e env) :: starEach [] env) (h52 : f.cfg.fns.findIdx? (· == ("_law_heard" : Str)) = some 52)
  (hy : slotOf f.cfg y = some j) (Ha : SsOk f a ca) (Hb : SsOk f b cb) : StOk f (.If (.Compare l [.NotEq] [.Name y p] q) a b r) (.heardIf i ce j ca cb) := by
 intro oa σ s Q E S hE D
 refine wpAny_If (wpAny_isTrue_Compare1 (heard_eval O hl He hs h52 S D (exS_of S) fun w s₁ x S₁ X R D => ?_) rfl)
 obtain ⟨m, v, z, F, hm, k3, k4, D'⟩ := ld_slot O hy S₁ D
 refine ldX F k3 ?_ O.kind (kind_loc O hm) (O.loc _ hm).2
 obtain ⟨as, ra, _⟩ := R
 obtain ⟨bs, rb, _⟩ := k4
 refine snd_cp (o := .ne) O.A_units D' ra rb fun t D => wpAny_truthy_bool ?_
 cases t
 ·exact Hb oa σ s₁ _ _ S₁ hE (DO.ext D X)
 ·exact Ha oa σ s₁ _ _ S₁ hE (DO.ext D X)
end
section
variable {f : Fm}
theorem asNe_eq {e : Expr} {y : Expr × Expr} (h : asNe e = some y) : ∃ p, e = .Compare y.1 [.NotEq] [y.2] p :=
 vd h fun x q h => bd h fun o h1 h => fd h fun ho h => by
  obtain ⟨r, h2, rfl⟩ := mpd h
  exact ⟨_, by rw [q, one_some h1, one_some h2, ho]⟩
theorem plusOf_eq {c : Cf} {e a : Expr} (h : plusOf c e = some a) : ∃ o lp bp, e = .BinOp o .Add (.List [a] lp) bp /\ isOwn c o = true :=
 bd h fun ol h1 h => fd h fun ho h => bd h fun xs h2 h => by
  obtain ⟨bp, q1⟩ := asPlus_eq h1
  obtain ⟨lp, q2⟩ := asList_eq h2
  exact ⟨_, lp, bp, by rw [q1, q2, one_some h], ho⟩
variable {n : Nat} (ihE : ∀ e c, cE f.cfg n e = some c -> Both f e c) (ihL : ∀ l c, cSs f.cfg n l = some c -> SsOk f l c)
theorem two_star {a b : Expr} {x y : Ex} (h1 : cE f.cfg n a = some x) (h2 : cE f.cfg n b = some y) (env : Env) : starEach [a, b] env = [(false, eval a env), (false, eval b env)] := by
 rw [(kd h1).star, (kd h2).star]
 rfl
theorem nil_two {a b : Expr} {y : Ex} (h1 : isNil a = true) (h2 : cE f.cfg n b = some y) (env : Env) : starEach [a, b] env = [(false, eval a env), (false, eval b env)] := by
 obtain ⟨p, rfl⟩ := isNil_list h1
 show (false, _) :: starEach [b] env = _
 rw [(kd h2).star]
 rfl
theorem two_nil {a b : Expr} {y : Ex} (h1 : cE f.cfg n a = some y) (h2 : isNil b = true) (env : Env) : starEach [a, b] env = [(false, eval a env), (false, eval b env)] := by
 obtain ⟨p, rfl⟩ := isNil_list h2
 rw [(kd h1).star]
 rfl
theorem pair_parts {a b : Expr} {k : Nat} {p : Pos} {y : Ex} (h : cE f.cfg n (.Tuple [a, b] k p) = some y) : ∃ m x z, cE f.cfg m a = some x /\ ∃ m', cE f.cfg m' b = some z := by
 obtain ⟨-, m, -, h | h⟩ := cE_some h
 ·cases h
 ·obtain ⟨l, h, -⟩ := mpd ((orE_some (show orE ((cEs f.cfg m [a, b]).map Ex.tup) none = some y from h)).resolve_right nofun)
  obtain ⟨m1, x, l1, -, h1, h2, -⟩ := cEs_cons h
  obtain ⟨m2, z, l2, -, h3, h4, -⟩ := cEs_cons h2
  exact ⟨m1, x, z, h1, m2, h3⟩
include ihE
section
variable {t e : Expr} {x y : Str} {a b : Expr} {k k' : Nat} {p p1 p2 tp tp' q : Pos} {c : Cm} {ts : List Expr}
theorem ass3_ok (O : f.Ok') (hok : okSw a b = true) (h : ((slotsOf f.cfg [.Name x p1, .Name y p2]).bind fun is => (cE f.cfg n (.Tuple [a, b] k' tp')).map fun e => Cm.setT is e) = some c) : StOk f (.Assign [.Tuple [.Name x p1, .Name y p2] k tp] (.Tuple [a, b] k' tp') q) c :=
 bd h fun is g1 h => md h fun e' g2 => by
 obtain ⟨_, _, i, l, e1, j1, j2, -⟩ := slots_cons g1
 cases e1
 obtain ⟨_, _, j, l', e2, j3, -, -⟩ := slots_cons j2
 cases e2
 obtain ⟨m, xa, xb, ha, m', hb⟩ := pair_parts g2
 exact (swapped_two O.toOk (List.mem_of_getElem? (slot_name j1).1) (List.mem_of_getElem? (slot_name j3).1) hok (kd ha).nstar (kd hb).nstar).elim
  (st_setT O.toOk (ihE _ _ g2).1 g1 (kd g2).swaps) fun w => st_setT2 O.toOk (ihE _ _ g2).1 g1 (kd g2).swaps w.1 w.2
theorem ass2_ok (O : f.Ok') (h : cAss2 f.cfg (cE f.cfg n) [.Name x p1, .Name y p2] x y a b (.Tuple [a, b] k' tp') = some c) : StOk f (.Assign [.Tuple [.Name x p1, .Name y p2] k tp] (.Tuple [a, b] k' tp') q) c :=
 yd h (fun hx h => fd h fun hab h => bd h fun i g1 h => md h fun b g2 => by
  rw [Bool.and_eq_true] at hab
  exact st_mkOwnA O.toOk (beq_iff_eq.mp hx) hab.1 g1 (ihE _ _ g2).1 hab.2 (nil_two hab.1 g2) (kd g2).nstar) fun _ h =>
 yd h (fun hy h => fd h fun hab h => bd h fun i g1 h => md h fun a g2 => by
  rw [Bool.and_eq_true] at hab
  exact st_mkOwnB O.toOk (beq_iff_eq.mp hy) hab.1 g1 (ihE _ _ g2).1 hab.2 (two_nil g2 hab.1) (kd g2).nstar) fun _ h => fd h fun hok h => ass3_ok ihE O hok h
theorem assT_ok (O : f.Ok') (h : cAssT f.cfg (cE f.cfg n) ts e = some c) : StOk f (.Assign [.Tuple ts k tp] e q) c := by
 unfold cAssT at h
 cases h1 : asTup e with
 | some es =>
  rw [h1] at h
  exact bd h fun ab h2 h => bd h fun t h3 h => bd h fun x h4 h => bd h fun y h5 h => by
   obtain ⟨k', tp', e1⟩ := asTup_eq h1
   obtain ⟨p1, q1⟩ := asName_eq h4
   obtain ⟨p2, q2⟩ := asName_eq h5
   rw [two_some h3, q1, q2, e1, two_some h2] at h ⊢
   exact ass2_ok ihE O h
 | none =>
  rw [h1] at h
  exact nd h fun hd h => bd h fun is g1 h => md h fun e g2 => st_setT O.toOk (ihE _ _ g2).1 g1 (kd g2).swaps ((kd g2).disp (Bool.eq_false_iff.mpr hd) _ _ _ _)
theorem name_ok (O : f.Ok') (h : cName f.cfg (cE f.cfg n) x e = some c) : StOk f (.Assign [.Name x p] e q) c :=
 yd h (fun ho h => fd h fun hn h => hd1 h (st_mkOwn O.toOk (beq_iff_eq.mp ho) hn)) fun _ h => bd h fun i h1 h => md h fun e h2 => st_set O.toOk (ihE _ _ h2).1 h1 (kd h2).swaps
theorem ass1_ok (O : f.Ok') (h : cAss1 f.cfg (cE f.cfg n) t e = some c) : StOk f (.Assign [t] e q) c :=
 jd h (fun h => bd h fun x h1 h => by
  obtain ⟨p, q⟩ := asName_eq h1
  rw [q]; exact name_ok ihE O h) fun h => jd h (fun h => vd h fun x q h => by rw [q]; exact assT_ok ihE O h) fun h => vd h fun x q h => by
   rw [q]
   exact fd h fun hab h => md h fun e h2 => by
    rw [Bool.and_eq_true] at hab
    exact st_setLast O.toOk hab.1 hab.2 (ihE _ _ h2).1 (kd h2).swaps
theorem ret_ok (O : f.Ok') (h : cRet f.cfg (cE f.cfg n) e = some c) : StOk f (.Return (some e) p) c :=
 yd h (fun ho h => hd1 h (st_retOwn O.toOk ho)) fun _ h => by
 cases h1 : plusOf f.cfg e with
 | some a =>
  rw [h1] at h
  refine md h fun a h2 => ?_
  obtain ⟨o, lp, bp, q, hw⟩ := plusOf_eq h1
  rw [q]
  exact st_retPush O.toOk hw (ihE _ _ h2).1 (by rw [(kd h2).star])
 | none =>
 rw [h1] at h
 cases h2 : tplusOf f.cfg e with
 | some xa =>
  rw [h2] at h
  refine bd h fun x h3 h => md h fun a h4 => bd h2 fun l g1 h2 => bd h2 fun ye g2 h2 => ?_
  obtain ⟨b, g3, rfl⟩ := mpd h2
  obtain ⟨k, tp, q⟩ := asTup_eq g1
  obtain ⟨o, lp, bp, e3, hw⟩ := plusOf_eq g3
  rw [q, two_some g2, e3]
  exact st_retTPush O.toOk (ihE _ _ h3).1 hw (ihE _ _ h4).1 (by rw [(kd h4).star]) (fun r => (kd h3).star _ _)
 | none =>
  rw [h2] at h
  exact md h fun e h3 => st_ret (ihE _ _ h3).1
theorem expr_ok (O : f.Ok') (h : cExpr f.cfg (cE f.cfg n) e = some c) : StOk f (.Expr e p) c :=
 bd h fun fl h1 h => bd h fun om h2 h => bd h fun x h3 h => fd h fun hc h => md h fun y h4 => by
 rw [Bool.and_eq_true, Bool.and_eq_true] at hc
 rw [asCall_eq h1, asAttr_eq h2, one_some h3]
 exact st_push O.toOk hc.1 (beq_iff_eq.mp hc.2.1) hc.2.2 (ihE _ _ h4).1 ((kd h4).star _)
end
section
variable {s : Stmt} {c : Cm}
theorem ok_asg (O : f.Ok') (h : bAsg f.cfg (cE f.cfg n) s = some c) : StOk f s c := vd h fun x q h => bd h fun t h1 h => by
 rw [q, one_some h1]
 exact ass1_ok ihE O h
theorem ok_aug (O : f.Ok') (h : bAug f.cfg (cE f.cfg n) s = some c) : StOk f s c := vd h fun x q h => bd h fun y h1 h => by
 obtain ⟨p, q1⟩ := asName_eq h1
 rw [q, q1]
 exact bd h fun i h2 h => bd h fun o h3 h => md h fun e h4 => st_aug O.toOk (ihE _ _ h4).1 h2 h3
theorem ok_ret (O : f.Ok') (h : bRet f.cfg (cE f.cfg n) s = some c) : StOk f s c := vd h fun x q h => bd h fun e h1 h => by
 rw [q, h1]
 exact ret_ok ihE O h
theorem ok_rai (O : f.Ok') (h : bRai (cE f.cfg n) s = some c) : StOk f s c := vd h fun x q h => fd h fun hg h => bd h fun e h1 h => by
 rw [q, h1, isNone_eq hg]
 exact md h fun c h => st_raise O (ihE _ _ h).1
theorem ok_exp (O : f.Ok') (h : bExp f.cfg (cE f.cfg n) s = some c) : StOk f s c := vd h fun x q h => by
 rw [q]
 exact expr_ok ihE O h
theorem ok_hs (O : f.Ok') (h : bHs f.cfg (cE f.cfg n) s = some c) : StOk f s c := vd h fun x q h => bd h fun t h1 h => bd h fun y h2 h => bd h fun ie h3 h => bd h fun j h4 h => by
 obtain ⟨p, q1⟩ := asName_eq h2
 rw [q, one_some h1, q1]
 exact md h fun c h5 => st_heardS O.toOk h3 (ihE _ _ h5).1 (fun env => (kd h5).star _ _) (by rw [O.fns]; kernel_rfl) h4
include ihL
theorem ok_hi (O : f.Ok') (h : bHi f.cfg (cE f.cfg n) (cSs f.cfg n) s = some c) : StOk f s c := vd h fun x q h => bd h fun ly h1 h => bd h fun ie h2 h => bd h fun y h3 h => bd h fun j h4 h => by
 obtain ⟨p, q1⟩ := asNe_eq h1
 obtain ⟨r, q2⟩ := asName_eq h3
 rw [q, q1, q2]
 exact bd h fun _ h5 h => bd h fun _ h6 h => md h fun _ h7 => st_heardIf O.toOk h2 (ihE _ _ h5).1 (fun env => (kd h5).star _ _) (by rw [O.fns]; kernel_rfl) h4 (ihL _ _ h6) (ihL _ _ h7)
theorem law_st (O : f.Ok') (h : lStmt f.cfg (cE f.cfg n) (cSs f.cfg n) s = some c) : StOk f s c := jd h (ok_hs ihE O) (ok_hi ihE ihL O)
theorem ok_ite (h : bIte (cE f.cfg n) (cSs f.cfg n) s = some c) : StOk f s c := vd h fun x q h => by
 rw [q]
 exact bd h fun t h1 h => bd h fun a h2 h => md h fun b h3 => st_ite (ihE _ _ h1).2 (ihL _ _ h2) (ihL _ _ h3)
theorem ok_wh (h : bWh (cE f.cfg n) (cSs f.cfg n) s = some c) : StOk f s c := vd h fun x q h => fd h fun hb h => by
 rw [q, List.isEmpty_iff.mp hb]
 exact bd h fun t h1 h => md h fun a h2 => st_wh (ihE _ _ h1).2 (ihL _ _ h2)
theorem for_ok (O : f.Ok') {x : Str} {p q : Pos} {i : Nat} {e : Expr} {b : List Stmt} (hi : slotOf f.cfg x = some i) (h : cFor f.cfg (cE f.cfg n) (cSs f.cfg n) i e b = some c) : StOk f (.For (.Name x p) e b [] q) c := by
 unfold cFor at h
 cases h1 : rangeOf f.cfg e with
 | some e' =>
  rw [h1] at h
  refine bd h fun e2 h2 h => md h fun b h3 => bd h1 fun fl g1 h1 => bd h1 fun g g2 h1 => fd h1 fun hc h1 => ?_
  rw [Bool.and_eq_true] at hc
  obtain ⟨np, e3⟩ := asName_eq g2
  rw [asCall_eq g1, e3, beq_iff_eq.mp hc.1, one_some h1]
  exact st_forR O.toOk (ihE _ _ h2).1 hi (ihL _ _ h3) (by rw [<- beq_iff_eq.mp hc.1]; exact List.contains_iff_mem.mp hc.2) (by rw [(kd h2).star])
 | none =>
  rw [h1] at h
  exact bd h fun e2 h2 h => md h fun b h3 => st_forE O.toOk (ihE _ _ h2).1 hi (ihL _ _ h3) (kd h2).fold
theorem ok_for (O : f.Ok') (h : bFor f.cfg (cE f.cfg n) (cSs f.cfg n) s = some c) : StOk f s c := vd h fun y q h => fd h fun hb h => bd h fun x h1 h => bd h fun i h2 h => by
 obtain ⟨p, q1⟩ := asName_eq h1
 rw [q, q1, List.isEmpty_iff.mp hb]
 exact for_ok ihE ihL O h2 h
theorem s1_ok (O : f.Ok') (h : cS1 f.cfg (cE f.cfg n) (cSs f.cfg n) s = some c) : StOk f s c :=
 jd h (ok_asg ihE O) fun h => jd h (ok_aug ihE O) fun h => jd h (ok_ite ihE ihL) fun h => jd h (ok_wh ihE ihL) fun h => jd h (ok_for ihE ihL O) fun h => jd h (ok_ret ihE O) fun h => jd h (ok_rai ihE O) fun h => jd h (ok_exp ihE O) fun h =>
  jd h (fun h => vd h fun x q h => by rw [q]; exact hd1 h st_brk) fun h => vd h fun x q h => by rw [q]; exact hd1 h st_cont
end
omit ihE ihL
theorem ss_all (O : f.Ok') (n : Nat) : n <= 1000 -> (∀ st c, cS f.cfg n st = some c -> StOk f st c) /\ (∀ l c, cSs f.cfg n l = some c -> SsOk f l c) := by
 induction n with
 | zero => exact fun _ => ⟨fun e c h => (nomatch h), fun l c h => (nomatch h)⟩
 | succ n ih =>
  intro hn
  obtain ⟨ihS, ihL⟩ := ih (Nat.le_of_lt hn)
  have ihE := (ev_all O n (Nat.le_of_lt hn)).1
  refine ⟨fun st c h => ?_, fun l c h => ?_⟩
  ·exact jd (show orE (if f.cfg.hd then lStmt f.cfg (cE f.cfg n) (cSs f.cfg n) st else none) (cS1 f.cfg (cE f.cfg n) (cSs f.cfg n) st) = some c from h) (fun h => law_st ihE ihL O (ifd h).2) (s1_ok ihE ihL O)
  ·match l with
   | [] => exact hd1 h ss_nil
   | [a] => exact ss_one (ihS _ _ h)
   | a :: b :: l => exact bd (show (cS f.cfg n a).bind (fun x => (cSs f.cfg n (b :: l)).map fun y => Cm.seq x y) = some c from h) fun a h1 h => md h fun l h2 => ss_cons (ihS _ _ h1) (ihL _ _ h2)
end
end Mine
namespace Mine
open PySem PySem.W PyProof.Rows PySem.Calls
noncomputable def bmE : List Value := [.type "Exception", .type "BaseException", .type "object"]
noncomputable abbrev clsO : Obj := excClassObj "Raised" "Raised" 33 32 [.type "Exception"] bmE true [] [] false none none (some (.ref 15)) none (some (.str "Raised" 189)) (some (.str "Raised" 197)) (some (.bool true)) "Exception.__new__"
noncomputable def clsBody : List Stmt := match PySem.Challenge.pw_oj0060_01.main.body[1]? with | some (Stmt.ClassDef _ _ _ b _ _ _ _ _ _ _) => b | _ => []
noncomputable def initStmt : Option Stmt := clsBody[0]?
noncomputable def initArgs : Arguments := match initStmt with | some (.FunctionDef _ a ..) => a | _ => { posonlyargs := [], args := [], vararg := none, kwonlyargs := [], kw_defaults := [], kwarg := none, defaults := [] }
noncomputable def initBody : List Stmt := match initStmt with | some (.FunctionDef _ _ b ..) => b | _ => []
noncomputable def initScope : Scope := match initStmt with | some (.FunctionDef _ _ _ _ _ _ sc _ _ _) => sc | _ => { kind := .function, names := [], isGenerator := false, isCoroutine := false }
noncomputable abbrev nsO (P : Params) : Obj := ⟨.type "dict", none, .dict #[⟨PyData.keyHash P "__module__", (.str "__module__" 196), (.str "tclcore.faults" 187)⟩, ⟨PyData.keyHash P "__firstlineno__", (.str "__firstlineno__" 200), (.int 2 199)⟩, ⟨PyData.keyHash P "__init__", (.str "__init__" 215), (.ref 30)⟩, ⟨PyData.keyHash P "__static_attributes__", (.str "__static_attributes__" 225), (.ref 31)⟩, ⟨PyData.keyHash P "__weakref__", (.str "__weakref__" 227), (.ref 34)⟩, ⟨PyData.keyHash P "__doc__", (.str "__doc__" 228), .none⟩] 3, #[]⟩
noncomputable def initFd : FuncData := fnOf "__init__" "Raised.__init__" initArgs initBody initScope (.ref 23) .none .none (.str "tclcore.faults" 187) none (.ref 29) .none
noncomputable def errFd : FuncData := fnOf "error" "error" (argsAt 2) (bodyAt 2) (scopeAt 2) (.ref 38) .none .none (.str "tclcore.faults" 187) none (.ref 44) .none
noncomputable def cmdFd : FuncData := fnOf "command_at" "command_at" (argsAt 24) (bodyAt 24) (scopeAt 24) (.ref 179) .none .none (.str "tclcore.words" 277) none (.ref 185) .none
noncomputable def mainO (P : Params) : Obj := ⟨.type "dict", none, .dict #[⟨PyData.keyHash P "__name__", (.str "__name__" 165), (.str "law_oj0060_01" 565)⟩, ⟨PyData.keyHash P "__doc__", (.str "__doc__" 166), .none⟩, ⟨PyData.keyHash P "__package__", (.str "__package__" 167), .none⟩, ⟨PyData.keyHash P "__loader__", (.str "__loader__" 168), (.builtin "__main__.__loader__#opaque")⟩, ⟨PyData.keyHash P "__spec__", (.str "__spec__" 169), .none⟩, ⟨PyData.keyHash P "__annotations__", (.str "__annotations__" 170), (.ref 6)⟩, ⟨PyData.keyHash P "__builtins__", (.str "__builtins__" 171), (.ref 4)⟩, ⟨PyData.keyHash P "__file__", (.str "__file__" 173), (.str "/claim/cut.py" 172)⟩, ⟨PyData.keyHash P "__cached__", (.str "__cached__" 174), .none⟩, ⟨PyData.keyHash P "Raised", (.str "Raised" 232), (.ref 33)⟩, ⟨PyData.keyHash P "error", (.str "error" 241), (.ref 45)⟩, ⟨PyData.keyHash P "is_blank", (.str "is_blank" 250), (.ref 52)⟩, ⟨PyData.keyHash P "digit", (.str "digit" 258), (.ref 59)⟩, ⟨PyData.keyHash P "digits_value", (.str "digits_value" 269), (.ref 66)⟩, ⟨PyData.keyHash P "base_of", (.str "base_of" 276), (.ref 73)⟩, ⟨PyData.keyHash P "hex_sign", (.str "hex_sign" 290), (.ref 80)⟩, ⟨PyData.keyHash P "octal_sign", (.str "octal_sign" 301), (.ref 87)⟩, ⟨PyData.keyHash P "backslash", (.str "backslash" 312), (.ref 94)⟩, ⟨PyData.keyHash P "is_gap", (.str "is_gap" 319), (.ref 101)⟩, ⟨PyData.keyHash P "skip_gaps", (.str "skip_gaps" 327), (.ref 108)⟩, ⟨PyData.keyHash P "comment_behind", (.str "comment_behind" 336), (.ref 115)⟩, ⟨PyData.keyHash P "skip_to_command", (.str "skip_to_command" 344), (.ref 122)⟩, ⟨PyData.keyHash P "read_name", (.str "read_name" 352), (.ref 129)⟩, ⟨PyData.keyHash P "variable", (.str "variable" 364), (.ref 136)⟩, ⟨PyData.keyHash P "brackets", (.str "brackets" 375), (.ref 143)⟩, ⟨PyData.keyHash P "braces", (.str "braces" 390), (.ref 150)⟩, ⟨PyData.keyHash P "parts_until", (.str "parts_until" 406), (.ref 157)⟩, ⟨PyData.keyHash P "bare_stops", (.str "bare_stops" 413), (.ref 164)⟩, ⟨PyData.keyHash P "is_expanded", (.str "is_expanded" 422), (.ref 171)⟩, ⟨PyData.keyHash P "word", (.str "word" 437), (.ref 178)⟩, ⟨PyData.keyHash P "command_at", (.str "command_at" 452), (.ref 186)⟩, ⟨PyData.keyHash P "expr_fault", (.str "expr_fault" 463), (.ref 193)⟩, ⟨PyData.keyHash P "skip_space", (.str "skip_space" 473), (.ref 200)⟩, ⟨PyData.keyHash P "is_digit", (.str "is_digit" 482), (.ref 207)⟩, ⟨PyData.keyHash P "run_end", (.str "run_end" 490), (.ref 214)⟩, ⟨PyData.keyHash P "is_word_op", (.str "is_word_op" 497), (.ref 221)⟩, ⟨PyData.keyHash P "is_float_at", (.str "is_float_at" 506), (.ref 228)⟩, ⟨PyData.keyHash P "number_token", (.str "number_token" 519), (.ref 235)⟩, ⟨PyData.keyHash P "op_at", (.str "op_at" 528), (.ref 242)⟩, ⟨PyData.keyHash P "sign_token", (.str "sign_token" 540), (.ref 249)⟩, ⟨PyData.keyHash P "token_at", (.str "token_at" 554), (.ref 256)⟩, ⟨PyData.keyHash P "lex", (.str "lex" 564), (.ref 263)⟩, ⟨PyData.keyHash P "_law_piece", (.str "_law_piece" 573), (.ref 270)⟩, ⟨PyData.keyHash P "_law_rows", (.str "_law_rows" 579), (.ref 277)⟩, ⟨PyData.keyHash P "_law_wrong", (.str "_law_wrong" 587), (.ref 284)⟩, ⟨PyData.keyHash P "_law_is_figure", (.str "_law_is_figure" 595), (.ref 291)⟩, ⟨PyData.keyHash P "_law_run_end", (.str "_law_run_end" 604), (.ref 298)⟩, ⟨PyData.keyHash P "_law_first", (.str "_law_first" 612), (.ref 305)⟩, ⟨PyData.keyHash P "_law_row_behind", (.str "_law_row_behind" 620), (.ref 312)⟩, ⟨PyData.keyHash P "_law_dollar", (.str "_law_dollar" 631), (.ref 319)⟩, ⟨PyData.keyHash P "_law_filled", (.str "_law_filled" 643), (.ref 326)⟩, ⟨PyData.keyHash P "_law_braced", (.str "_law_braced" 654), (.ref 333)⟩, ⟨PyData.keyHash P "_law_figures", (.str "_law_figures" 672), (.ref 340)⟩, ⟨PyData.keyHash P "_law_is_word_sign", (.str "_law_is_word_sign" 679), (.ref 347)⟩, ⟨PyData.keyHash P "_law_token", (.str "_law_token" 694), (.ref 354)⟩, ⟨PyData.keyHash P "_law_tokens", (.str "_law_tokens" 704), (.ref 361)⟩, ⟨PyData.keyHash P "_law_heard", (.str "_law_heard" 713), (.ref 368)⟩, ⟨PyData.keyHash P "_law_gapped", (.str "_law_gapped" 729), (.ref 375)⟩, ⟨PyData.keyHash P "law", (.str "law" 735), (.ref 380)⟩] 59, #[]⟩
noncomputable def myAs : List Addr := [3, 22, 23, 29, 30, 32, 33, 37, 38, 44, 45, 179, 185, 186]
noncomputable def myK (P : Params) : Frag :=
 [(3, mainO P), (22, ⟨.type "tuple", none, .seq #[.str "NONE" 201] 0, #[]⟩),
 (23, ⟨.type "tuple", none, .seq #[.ref 22, .int 0 202, .int 0 203] 0, #[]⟩),
 (29, ⟨.type "code", none, .fields #[(.str "__init__" 204), (.str "Raised.__init__" 205), (.str "/claim/cut.py" 206), (.int 4 0), (.int 6 0), (.int 0 0), (.int 0 0), (.int 3 0), (.ref 24), (.bool true), (.int 181 0), (.ref 25), .none, (.ref 26), (.ref 27), (.ref 28), (.int 213 0), (.int 4 0), (.str "/claim/cut.py" 214)], #[]⟩),
 (30, ⟨.type "function", none, .func initFd, #[]⟩),
 (32, nsO P),
 (33, clsO),
 (37, ⟨.type "tuple", none, .seq #[.str "NONE" 233] 0, #[]⟩),
 (38, ⟨.type "tuple", none, .seq #[.ref 37] 0, #[]⟩),
 (44, ⟨.type "code", none, .fields #[(.str "error" 234), (.str "error" 235), (.str "/claim/cut.py" 236), (.int 15 0), (.int 2 0), (.int 0 0), (.int 0 0), (.int 3 0), (.ref 39), (.bool true), (.int 181 0), (.ref 40), .none, (.ref 41), (.ref 42), (.ref 43), (.int 239 0), (.int 15 0), (.str "/claim/cut.py" 240)], #[]⟩),
 (45, ⟨.type "function", none, .func errFd, #[]⟩),
 (179, ⟨.type "tuple", none, .seq #[.bool false] 0, #[]⟩),
 (185, ⟨.type "code", none, .fields #[(.str "command_at" 438), (.str "command_at" 439), (.str "/claim/cut.py" 440), (.int 246 0), (.int 3 0), (.int 0 0), (.int 0 0), (.int 3 0), (.ref 180), (.bool true), (.int 181 0), (.ref 181), .none, (.ref 182), (.ref 183), (.ref 184), (.int 450 0), (.int 246 0), (.str "/claim/cut.py" 451)], #[]⟩),
 (186, ⟨.type "function", none, .func cmdFd, #[]⟩)]
theorem myAs_ok (P : Params) : myAs = (myK P).map (·.1) := by kernel_rfl
end Mine
namespace Mine
open PySem PySem.W PyProof.Rows PySem.Calls PySem.Builtin PySem.Builtin.Str
section
variable {prog : Program} {w : World} {A : Around} {E : Value -> Shared -> Prop} {s : Shared} {env : Env}
theorem raise_made {x : Sem Value} {Q : Flow -> Shared -> Prop} (hh : A.handled = none)
  (h : wpAny (model prog w) A x (fun v s₁ => ∃ e oe vs, v = .ref e /\ s₁.heap.get? 33 = some clsO /\ s₁.heap.get? e = some oe /\ oe.cls = .ref 33 /\ oe.data = .fields vs /\ vs[1]? = some .none /\ E (.ref e) s₁) E s) :
  wpAny (model prog w) A (raiseStmt env (some x) none) Q E s := by
 have hcB : (Value.ref 33 :: bmE).contains (.type "BaseException") = true := by decide +kernel
 unfold raiseStmt
 refine wpAny_bind (wpAny_mono h (fun v s₁ h₁ => ?_) fun _ _ x => x)
 obtain ⟨e, ⟨oc, od, odt, osl⟩, vs, rfl, hC, he, hc, hd, h1, hE⟩ := h₁
 obtain ⟨hp, g, d, tk, os⟩ := s₁
 dsimp only at hc hd hC he
 subst hc hd
 repeat (first | with_reducible refine wpAny_loadPart_at he ?_ | with_reducible refine wpAny_loadPart_at hC ?_ | (with_reducible refine wpAny_isSubtype_exc hC ?_; rw [hcB]) | with_reducible refine wpAny_field he rfl h1 ?_ | wp_step)
 exact wpAny_raiseNew_none hh hE
end
end Mine
namespace Mine
open PySem PySem.W PyProof.Rows PySem.Calls PySem.Builtin PySem.Builtin.ObjectAttr
section
variable {prog : Program} {w : World} {A : Around} {E : Value -> Shared -> Prop} {h : Heap} {g : Array GenState} {d : Drawn} {t : Nat} {os : OsState} {e : Addr} {o : Obj} {vs : Array Value} {mN : Str -> Option Value} {name : Str} {v : Value}
 {nm q : Str} {C N : Addr} {bs bm : List Value} {sn : List Str} {sub : List Value} {ab : Bool} {col : Option Bool} {dd : Option Addr} {k0 k1 k2 k3 k5 : Option Value} {B newId sa owner : String}
theorem first_run {tk : Tok} {Q : Fin -> Shared -> Prop} (SF : StoreFacts B bm sa owner) (hC : h.get? C = some (excClassObj nm q C N bs bm true sn sub ab col dd k0 k1 k2 k3 k5 newId)) (hn : h.Ns N mN) (hna : mN name = none) (hB : typeLookup (.type B) name = pure none)
  (he : h.get? e = some o) (hc : o.cls = .ref C) (hd : o.data = .fields vs) (hdn : o.dict = none)
  (hq : ∀ h' tk' dx, h'.Ns1 dx (fun y => if y = name then some v else none) -> h.get? dx = none -> dx ≠ e -> h'.get? e = some { o with dict := some dx } ->
   (∀ b ob, b ≠ e -> h.get? b = some ob -> h'.get? b = some ob) -> Q (.done (.ret .none)) ⟨h', g, d, tk', os⟩) :
  wpAny (model prog w) A (Builtin.«object.__setattr__» ⟨[.ref e, .str name tk, v], []⟩) Q E ⟨h, g, d, t, os⟩ := by
 have hpass := SF.passes (.ref e)
 unfold Builtin.«object.__setattr__»
 repeat (first | rw [refuse_eq] | (rw [refuseLoop_ref, hpass]) | (with_reducible refine wpAny_loadPart_at he ?_; rw [hc]) | with_reducible refine wpAny_mroOf_exc hC ?_ | (with_reducible refine wpAny_typeLookup_exc hC hn SF.mro hB ?_; rw [hna]) | wp_step)
 rw [hdn, if_neg (by simp [typeHasDict])]
 split
 ·rename_i hcd
  cases hcd
 split
 ·rename_i c hcd
  rw [hd] at hcd
  cases hcd
 ·have hne : h.objs.size ≠ e := Nat.ne_of_gt (Heap.lt_size he)
  have he₁ : (h.push { cls := .type "dict", data := .dict #[] }).get? e = some o := Heap.get?_push_of_some _ he
  refine wpAny_bind (wpAny_alloc' ?_)
  refine wpAny_bind (wpAny_update' he₁ ?_)
  refine wpAny_pure ?_
  have hgd : ((h.push { cls := .type "dict", data := .dict #[] }).update e fun o => { cls := o.cls, dict := some h.objs.size, data := o.data, slots := o.slots }).get? h.objs.size
    = some { cls := .type "dict", data := .dict #[] } := (Heap.get?_update_ne _ _ _ _ hne).trans (Heap.get?_push_at rfl rfl)
  have hnd : ((h.push { cls := .type "dict", data := .dict #[] }).update e fun o => { cls := o.cls, dict := some h.objs.size, data := o.data, slots := o.slots }).Ns h.objs.size (fun _ => none) :=
   ⟨_, #[], _, hgd, rfl, fun e he => absurd he (by simp), fun _ => rfl⟩
  show wpAny _ _ (storeInDict h.objs.size (.str name tk) name v) _ _ _
  unfold storeInDict newKeyGuard
  refine wpAny_bind (wpAny_pure (wpAny_bind (wpAny_nsSet1 (Heap.Ns1.of_empty hnd) fun h' hn' hs => ?_)))
  obtain ⟨oD, esD, epD, hoD, hdD, hcD⟩ := hn'.count (Within.cons name v Within.nil)
  refine wpAny_bind (wpAny_lookBehind hoD (by rw [hdD]; exact pastItsLine_dict (Nat.le_trans hcD (by rw [List.length_cons, List.length_nil, sizeLine_eq]; lia))) ?_)
  wp_walk
  refine hq h' _ h.objs.size hn' (get_size h) hne ((hs.2 e (Ne.symm hne)).trans (Heap.get?_update_self _ he₁ ?_)) fun b ob hb q => ?_
  ·exact Obj.isFreed_of_fields hd
  ·exact (hs.2 b (Nat.ne_of_lt (Heap.lt_size q))).trans ((Heap.get?_update_ne _ _ _ _ hb).trans (Heap.get?_push_of_some _ q))
theorem first_store {Q : Unit -> Shared -> Prop} (SF : StoreFacts B bm sa owner) (hC : h.get? C = some (excClassObj nm q C N bs bm true sn sub ab col dd k0 k1 k2 k3 k5 newId)) (hn : h.Ns N mN) (hns : mN "__setattr__" = none) (hna : mN name = none) (hB : typeLookup (.type B) name = pure none)
  (he : h.get? e = some o) (hc : o.cls = .ref C) (hd : o.data = .fields vs) (hdn : o.dict = none)
  (hq : ∀ h' tk' dx, h'.Ns1 dx (fun y => if y = name then some v else none) -> h.get? dx = none -> dx ≠ e -> h'.get? e = some { o with dict := some dx } ->
   (∀ b ob, b ≠ e -> h.get? b = some ob -> h'.get? b = some ob) -> Q () ⟨h', g, d, tk', os⟩) :
  wpAny (model prog w) A (setAttr (.ref e) name v) Q E ⟨h, g, d, t, os⟩ := by
 have f3 := SF.slot.bind (.ref e)
 unfold setAttr callSpecial? specialOf
 repeat (any_goals (first | assumption | (with_reducible refine wpAny_loadPart_at he ?_; rw [hc]) | (with_reducible refine wpAny_typeLookup_exc hC hn SF.mro SF.slot.lookup ?_; rw [hns]) | wp_step))
 refine codeAny_call_builtin SF.slot.plain SF.entry (wpAny_check_sa SF hC he hc (first_run SF hC hn hna hB he hc hd hdn fun h' tk' dx a1 a2 a3 a4 a5 => ?_))
 repeat (any_goals (first | assumption | wp_step))
 exact hq h' tk' dx a1 a2 a3 a4 a5
end
end Mine
namespace Mine
open PySem PySem.W PyProof.Rows PySem.Calls
inductive Rhs | nm (x : Str) | str (s : Str) | bool (b : Bool) | int (i : Int) | list
noncomputable abbrev PN := Nat -> Pos
noncomputable abbrev pN (l : List Pos) : PN := fun i => l.getD i default
noncomputable def rhsE (k : Nat) (p : Pos) : Rhs -> Expr
 | .nm y => .Name y p
 | .str s => .Constant (.str s) k p
 | .bool b => .Constant (.bool b) k p
 | .int i => .Constant (.int i) k p
 | .list => .List [] p
noncomputable def tSet (a : Str) (r : Rhs) (k : Nat) (p : PN) (n : Nat) : Stmt := .Assign [.Attribute (.Name "self" (p n)) a (p (n + 1))] (rhsE k (p (n + 2)) r) (p (n + 3))
noncomputable def tSup (p : PN) : Stmt := .Expr (.Call (.Attribute (.Name "Exception" (p 0)) "__init__" (p 1)) [.Name "self" (p 2), .Name "value" (p 3)] [] (p 4)) (p 5)
section
variable {prog : Program} {w : World} {A : Around} {E : Value -> Shared -> Prop} {h : Heap} {g : Array GenState} {d : Drawn} {t : Nat} {os : OsState} {e : Addr} {o : Obj} {vs : Array Value} {t0 : Addr}
theorem sup_init {rest : List Value} {Q : Value -> Shared -> Prop} (hC : h.get? 33 = some clsO) (he : h.get? e = some o) (hc : o.cls = .ref 33) (hd : o.data = .fields vs) (h0 : vs[0]? = some (.ref t0))
  (hq : Q .none ⟨(h.push { cls := .type "tuple", data := .seq rest.toArray }).update e (Obj.mapFields (·.setIfInBounds 0 (.ref h.objs.size))), g, d, t, os⟩) (hrest : rest.length <= sizeLine := by size_fits) :
  wpAny (model prog w) A (call (.builtin "Exception.__init__") (.ref e :: rest)) Q E ⟨h, g, d, t, os⟩ := by
 have F := PySem.F.excBase_Exception
 refine wpAny_call (codeAny_call_builtin F.init.plain F.initEntry (wpAny_check_init_subU F OwnTail.base hC he hc ?_))
 unfold Builtin.«BaseException.__init__»
 dsimp only
 rw [if_neg (by simp)]
 unfold newTuple Builtin.BaseException.bexcPut
 have hsz : 0 < vs.size := (Array.getElem?_eq_some_iff.mp h0).1
 have he₁ := Heap.get?_push_of_some (h := h) { cls := .type "tuple", data := .seq rest.toArray } he
 refine wpAny_bind (wpAny_newObj_type (wpAny_bind (wpAny_bind (wpAny_field he₁ hd h0 (wpAny_bind (wpAny_setField he₁ hd hsz ?_))))) (by show rest.toArray.size <= sizeLine; rw [List.size_toArray]; exact hrest))
 exact wpAny_letGo (wpAny_pure hq)
end
noncomputable def clsNs : Str -> Option Value := nsFind #[⟨0, (.str "__module__" 196), (.str "tclcore.faults" 187)⟩, ⟨0, (.str "__firstlineno__" 200), (.int 2 199)⟩, ⟨0, (.str "__init__" 215), (.ref 30)⟩, ⟨0, (.str "__static_attributes__" 225), (.ref 31)⟩, ⟨0, (.str "__weakref__" 227), (.ref 34)⟩, ⟨0, (.str "__doc__" 228), .none⟩]
theorem clsNs_of {P : Params} {h : Heap} (e : h.get? 32 = some (nsO P)) : h.Ns 32 clsNs := by
 refine ⟨_, _, _, e, rfl, ?_, fun name => ?_⟩
 ·intro en hen
  simp only [List.mem_toArray, List.mem_cons, List.not_mem_nil, or_false] at hen
  rcases hen with rfl | rfl | rfl | rfl | rfl | rfl <;> exact ⟨_, _, rfl⟩
 ·unfold clsNs nsFind findBy
  simp only [List.find?_toArray, List.find?_cons]
  (repeat' split) <;> simp_all
noncomputable def setNames : List Str := ["code", "value", "errorcode", "level", "ret", "info", "is_noted", "line", "extra"]
theorem clsNs_none : ∀ a ∈ setNames, clsNs a = none := by decide +kernel
theorem exc_none : ∀ a ∈ setNames, typeLookup (.type "Exception") a = pure none := by
 intro a ha
 simp only [setNames, List.mem_cons, List.not_mem_nil, or_false] at ha
 rcases ha with rfl | rfl | rfl | rfl | rfl | rfl | rfl | rfl | rfl <;> (rw [typeLookup_type, builtinLookup_eq_fast]; kernel_rfl)
structure IS (h₀ : Heap) (L : Addr) (m : Str -> Option Value) (e : Addr) (vs : Array Value) (mA : Str -> Option Value) (n : Nat) (h : Heap) : Prop where
 F : Fr h₀ L h m
 obj : ∃ o, h.get? e = some o /\ o.cls = .ref 33 /\ o.data = .fields vs /\
  ((o.dict = none /\ ∀ y, mA y = none) \/ ∃ dx, o.dict = some dx /\ h.Ns1 dx mA /\ h₀.get? dx = none /\ dx ≠ e /\ dx ≠ L)
 wi : ∃ ns, Within mA ns /\ ns.length <= n
 new : h₀.get? e = none
 cls : h₀.get? 33 = some clsO
 ns : h₀.Ns 32 clsNs
theorem IS.eL {h₀ h : Heap} {L e : Addr} {m mA : Str -> Option Value} {vs : Array Value} {n : Nat} (I : IS h₀ L m e vs mA n h) : e ≠ L := by
 rintro rfl
 obtain ⟨o, es, ep, h1, h2, _⟩ := I.F.ns
 obtain ⟨o', g1, _, g2, _⟩ := I.obj
 rw [h1] at g1; cases g1; rw [h2] at g2; cases g2
theorem IS.stays {h₀ h h' : Heap} {L e : Addr} {m mA : Str -> Option Value} {vs : Array Value} {n : Nat} (I : IS h₀ L m e vs mA n h) (k : h.StaysIn h') : IS h₀ L m e vs mA n h' := by
 obtain ⟨o, a, b, c, d⟩ := I.obj
 refine ⟨Fr.stays' I.F k, ⟨o, k _ _ a, b, c, d.imp id ?_⟩, I.wi, I.new, I.cls, I.ns⟩
 rintro ⟨dx, d1, d2, d3⟩
 exact ⟨dx, d1, d2.at fun o e => k _ _ e, d3⟩
section
variable {prog : Program} {w : World} {A : Around} {E : Value -> Shared -> Prop} {s : Shared} {h₀ : Heap} {L e : Addr} {m mA : Str -> Option Value} {vs : Array Value} {n : Nat} {a : Str} {v : Value}
theorem set_step {Q : Unit -> Shared -> Prop} (I : IS h₀ L m e vs mA n s.heap) (ha : a ∈ setNames) (hn : n <= 100)
  (hQ : ∀ h' tk, IS h₀ L m e vs (fun y => if y = a then some v else mA y) (n + 1) h' -> Q () { s with heap := h', toks := tk }) :
  wpAny (model prog w) A (setAttr (.ref e) a v) Q E s := by
 obtain ⟨h, g, d, t, os⟩ := s
 obtain ⟨o, he, hc, hd, hdict⟩ := I.obj
 obtain ⟨ns, hw, hl⟩ := I.wi
 have hC := I.F.keep _ _ I.cls
 have hN := I.ns.keeps I.F.keep
 have eL := I.eL
 have frame : ∀ h' : Heap, (∀ b ob, b ≠ e -> (∀ dx, o.dict = some dx -> b ≠ dx) -> h.get? b = some ob -> h'.get? b = some ob) -> (∀ dx, o.dict = some dx -> dx ≠ L /\ h₀.get? dx = none) -> Fr h₀ L h' m := fun h' k kd =>
  ⟨I.F.ns.at' fun ob q => k _ ob (Ne.symm eL) (fun dx q => (kd dx q).1.symm) q, fun b ob q => k b ob (fun z => by rw [z, I.new] at q; cases q) (fun dx qd z => by rw [z, (kd dx qd).2] at q; cases q) (I.F.keep b ob q), I.F.above⟩
 have wi' : ∃ ns', Within (fun y => if y = a then some v else mA y) ns' /\ ns'.length <= n + 1 := ⟨a :: ns, Within.cons a v hw, by simp; lia⟩
 rcases hdict with ⟨hdn, hmA⟩ | ⟨dx, hdx, hns, hnew, hne, hdL⟩
 ·refine first_store PySem.F.store_Exception hC hN (by decide +kernel) (clsNs_none a ha) (exc_none a ha) he hc hd hdn fun h' tk' dx a1 a2 a3 a4 a5 => ?_
  have e1 : (fun y => if y = a then some v else none) = fun y => if y = a then some v else mA y := by funext y; simp only [hmA]
  rw [e1] at a1
  have hdL : dx ≠ L := fun q => by
   obtain ⟨oL, _, _, g1, _⟩ := I.F.ns
   rw [q, g1] at a2; cases a2
  refine hQ h' tk' ⟨frame h' (fun b ob h1 _ q => a5 b ob h1 q) (fun dx q => by rw [hdn] at q; cases q), ⟨_, a4, hc, hd, .inr ⟨dx, rfl, a1, fresh_of_stays I.F.keep a2, a3, hdL⟩⟩, wi', I.new, I.cls, I.ns⟩
 ·have hnC : ∀ c, o.data ≠ .cls c := fun c q => by rw [hd] at q; cases q
  have heC : e ≠ 33 := fun q => by rw [q, hC] at he; cases he; simp at hd
  refine store_attr PySem.F.store_Exception hC hN (by decide +kernel) (clsNs_none a ha) (exc_none a ha) heC ⟨o, he, hc, hnC, .inr ⟨dx, hdx, hne, hns⟩⟩ (fun h' tk' I' hk hsame => ?_) hw (Nat.le_trans hl (Nat.le_trans hn (by decide)))
  obtain ⟨o₁, b1, b2, b3, b4, b5⟩ := hsame o he
  have bd := b5 dx hdx
  obtain ⟨o', c1, c2, c3, c4⟩ := I'
  rw [b1] at c1; cases c1
  have hns' : h'.Ns1 dx (fun y => if y = a then some v else mA y) := by
   rcases c4 with ⟨c5, _⟩ | ⟨d', c5, _, c7⟩
   ·rw [bd] at c5; cases c5
   ·rw [bd] at c5; cases c5; exact c7
  have kk : ∀ b ob, b ≠ e -> (∀ dx, o.dict = some dx -> b ≠ dx) -> h.get? b = some ob -> h'.get? b = some ob := fun b ob h1 h2 q => hk b ob h1 (fun o₀ d₀ q₀ qd => by rw [he] at q₀; cases q₀; exact h2 _ qd) q
  refine hQ h' tk' ⟨frame h' kk (fun d₀ q => by rw [hdx] at q; cases q; exact ⟨hdL, hnew⟩), ⟨o₁, b1, b2.trans hc, b3.trans hd, .inr ⟨dx, bd, hns', hnew, hne, hdL⟩⟩, wi', I.new, I.cls, I.ns⟩
noncomputable abbrev iEnv (L : Addr) : Env := envOf "Raised.__init__" initScope L 30 (.ref 29)
theorem iKind : initScope.kind = .function := by kernel_rfl
theorem iLoc : ∀ y ∈ (["self", "code", "value", "errorcode", "level", "ret"] : List Str), initScope.names.lookup y = some .local := by decide +kernel
theorem iExc : initScope.names.lookup ("Exception" : Str) = some .globalImplicit := by decide +kernel
theorem set_stmt {r : Rhs} {k j : Nat} {p : PN} {Q : Flow -> Shared -> Prop} (I : IS h₀ L m e vs mA n s.heap) (ha : a ∈ setNames) (hn : n <= 100) (hself : m "self" = some (.ref e))
  (hr : ∀ y, r = .nm y -> y ∈ (["self", "code", "value", "errorcode", "level", "ret"] : List Str) /\ (y == ("__debug__" : Str)) = false /\ ∃ v, m y = some v)
  (hQ : ∀ h' tk v, IS h₀ L m e vs (fun y => if y = a then some v else mA y) (n + 1) h' -> (∀ y, r = .nm y -> m y = some v) -> Q .next { s with heap := h', toks := tk }) :
  wpAny (model prog w) A (exec (tSet a r k p j) (iEnv L)) Q E s := by
 have self_ : ∀ (s₁ : Shared) {Q : Value -> Shared -> Prop} (p : Pos), IS h₀ L m e vs mA n s₁.heap -> Q (.ref e) s₁ -> wpAny (model prog w) A (eval (.Name "self" p) (iEnv L)) Q E s₁ := fun s₁ Q p I₁ hq =>
  ld I₁.F hself hq iKind (iLoc _ (.head _)) (by decide)
 have go : ∀ (v : Value) (s₁ : Shared) (p₁ : Pos), s.heap.StaysIn s₁.heap -> (∃ h₁ tk, s₁ = { s with heap := h₁, toks := tk }) -> (∀ y, r = .nm y -> m y = some v) ->
   wpAny (model prog w) A (eval (.Name "self" p₁) (iEnv L)) (fun ov s₂ => wpAny (model prog w) A (setAttr ov a v) (fun _ => Q .next) E s₂) E s₁ := by
  intro v s₁ p₁ k hs₁ hm
  obtain ⟨h₁, tk, rfl⟩ := hs₁
  refine self_ _ _ (I.stays k) (set_step (I.stays k) ha hn fun h' tk' I' => ?_)
  exact hQ h' tk' v I' hm
 cases r with
 | nm y =>
  obtain ⟨y1, y2, v, y3⟩ := hr _ rfl
  exact plainObj_wpAny_Assign_Attribute (ld I.F y3 (go v s _ (fun _ _ q => q) ⟨_, _, rfl⟩ fun y q => by cases q; exact y3) iKind (iLoc _ y1) y2) rfl
 | str x => exact plainObj_wpAny_Assign_Attribute (wpAny_Constant_str (go _ _ _ (fun _ _ q => q) ⟨_, _, rfl⟩ fun y q => nomatch q)) rfl
 | bool b => exact plainObj_wpAny_Assign_Attribute (wpAny_Constant_bool (go _ _ _ (fun _ _ q => q) ⟨_, _, rfl⟩ fun y q => nomatch q)) rfl
 | int i => exact plainObj_wpAny_Assign_Attribute (wpAny_Constant_int (go _ _ _ (fun _ _ q => q) ⟨_, _, rfl⟩ fun y q => nomatch q)) rfl
 | list => exact plainObj_wpAny_Assign_Attribute (List_ (spliced_none (wpAny_newList (go _ _ _ (Grow.push s _).stays ⟨_, _, rfl⟩ fun y q => nomatch q) (by decide)))) rfl
end
theorem init_split : ∃ (p : PN) (k : Nat -> Nat), initBody = [tSup p, tSet "code" (.nm "code") 0 p 6, tSet "value" (.nm "value") 0 p 10, tSet "errorcode" (.nm "errorcode") 0 p 14, tSet "level" (.nm "level") 0 p 18, tSet "ret" (.nm "ret") 0 p 22,
  tSet "info" (.str "") (k 0) p 26, tSet "is_noted" (.bool false) (k 1) p 30, tSet "line" (.int 0) (k 2) p 34, tSet "extra" .list 0 p 38] /\ okM (.Name "Exception" (p 0)) (p 1) (p 4) [.Name "self" (p 2), .Name "value" (p 3)] = true :=
 ⟨pN [_, _, _, _, _, _, _, _, _, _, _, _, _, _, _, _, _, _, _, _, _, _, _, _, _, _, _, _, _, _, _, _, _, _, _, _, _, _, _, _, _, _], fun i => [_, _, _].getD i 0, rfl, rfl⟩
theorem exc_init_val : findCls [] (.type "Exception") (.type "type") "__init__" = some (.val (.builtin "Exception.__init__")) := by kernel_rfl
theorem type_exc : typeOf (.type "Exception") = pure (.type "type") := by kernel_rfl
theorem stub_exc : Manifest.isStub "Exception" = false := by decide +kernel
theorem handed_exc : handedIn (.builtin "Exception.__init__") = true := by decide +kernel
theorem nil_in (h : Heap) : Frag.In [] h := fun _ _ e => by cases e
section
variable {prog : Program} {w : World} {A : Around} {E : Value -> Shared -> Prop} {s : Shared} {h₀ : Heap} {L e t0 : Addr} {m : Str -> Option Value} {mg mb : Str -> Option Value}
set_option maxHeartbeats 4000000 in
theorem init_body {Q : Flow -> Shared -> Prop} (F : Fr h₀ L s.heap m) (he : s.heap.get? e = some ({ cls := .ref 33, data := .fields #[.ref t0, .none, .none, .none, .bool false, .none] } : Obj)) (hnew : h₀.get? e = none)
  (hC : h₀.get? 33 = some clsO) (hN : h₀.Ns 32 clsNs) (hg : h₀.Ns mainGlobals mg) (hb : h₀.Ns builtinsNs mb) (hE : mg "Exception" = none /\ mb "Exception" = some (.type "Exception"))
  (hself : m "self" = some (.ref e)) (hv : ∀ y ∈ (["code", "value", "errorcode", "level", "ret"] : List Str), ∃ v, m y = some v)
  (hQ : ∀ h' tk mA n a0, IS h₀ L m e #[a0, .none, .none, .none, .bool false, .none] mA n h' -> mA "code" = m "code" -> mA "value" = m "value" -> mA "errorcode" = m "errorcode" -> Q .next { s with heap := h', toks := tk }) :
  wpAny (model prog w) A (execs initBody (iEnv L)) Q E s := by
 obtain ⟨p, kk, hi, hk⟩ := init_split
 rw [hi]
 simp only [okM, Bool.and_eq_true, Bool.not_eq_true', decide_eq_true_eq, beq_iff_eq] at hk
 obtain ⟨⟨k1, k2⟩, k3⟩ := hk
 obtain ⟨vv, hvv⟩ := hv "value" (.tail _ (.head _))
 have start : ∀ a0 : Value, ∀ h' : Heap, (∀ b o, b ≠ e -> s.heap.get? b = some o -> h'.get? b = some o) -> h'.get? e = some ({ cls := .ref 33, data := .fields #[a0, .none, .none, .none, .bool false, .none] } : Obj) ->
   IS h₀ L m e #[a0, .none, .none, .none, .bool false, .none] (fun _ => none) 0 h' := by
  intro a0 h' k he'
  have eL : e ≠ L := by
   rintro rfl
   obtain ⟨o, es, ep, h1, h2, _⟩ := F.ns
   rw [he] at h1; cases h1; cases h2
  exact ⟨⟨F.ns.at' fun o q => k _ o (Ne.symm eL) q, fun b o q => k b o (fun z => by rw [z, hnew] at q; cases q) (F.keep b o q), F.above⟩, ⟨_, he', rfl, rfl, .inl ⟨rfl, fun _ => rfl⟩⟩, ⟨[], Within.nil, Nat.le_refl _⟩, hnew, hC, hN⟩
 refine wpAny_execs_cons (wpAny_Expr_any (MethodCall_ (ld_builtin_at F hg hE.1 hb hE.2 ?_ iKind iExc (by decide)) (meth_he k1 (by simpa using k2) k3 rfl)) (by
  unfold interactive
  show (initScope.kind == .module && _) = false
  rw [iKind]; rfl) rfl)
 refine method_type F (nil_in _) type_exc stub_exc exc_init_val handed_exc ?_
 refine callWith_method1 (spliced_more (ld F hself ?_ iKind (iLoc _ (.head _)) (by decide)) rfl) rfl rfl
 refine spliced_more (ld F hvv (spliced_none ?_) iKind (iLoc _ (.tail _ (.tail _ (.head _)))) (by decide)) rfl
 refine sup_init (F.keep _ _ hC) he rfl rfl rfl ?_
 have hne : e ≠ s.heap.objs.size := Nat.ne_of_lt (Heap.lt_size he)
 have I₀ : IS h₀ L m e #[.ref s.heap.objs.size, .none, .none, .none, .bool false, .none] (fun _ => none) 0 ((s.heap.push { cls := .type "tuple", data := .seq ([vv] : List Value).toArray }).update e (Obj.mapFields (·.setIfInBounds 0 (.ref s.heap.objs.size)))) := by
  refine start _ _ (fun b o hb q => ?_) ?_
  ·rw [Heap.get?_update_other _ _ (Ne.symm hb)]
   exact Heap.get?_push_of_some _ q
  ·rw [Heap.get?_update_self _ (Heap.get?_push_of_some _ he) rfl]
   rfl
 have nm : ∀ (l : List Str) y, y ∈ (["self", "code", "value", "errorcode", "level", "ret"] : List Str) -> (y == ("__debug__" : Str)) = false -> (∃ v, m y = some v) -> ∀ x, Rhs.nm y = .nm x -> x ∈ (["self", "code", "value", "errorcode", "level", "ret"] : List Str) /\ (x == ("__debug__" : Str)) = false /\ ∃ v, m x = some v := by
  intro _ y h1 h2 h3 x hx
  cases hx
  exact ⟨h1, h2, h3⟩
 refine wpAny_execs_cons (set_stmt I₀ (by decide) (by decide) hself (nm [] _ (by decide) (by decide) (hv _ (by decide))) fun h1 tk1 v1 I₁ e1 => ?_)
 refine wpAny_execs_cons (set_stmt I₁ (by decide) (by decide) hself (nm [] _ (by decide) (by decide) (hv _ (by decide))) fun h2 tk2 v2 I₂ e2 => ?_)
 refine wpAny_execs_cons (set_stmt I₂ (by decide) (by decide) hself (nm [] _ (by decide) (by decide) (hv _ (by decide))) fun h3 tk3 v3 I₃ e3 => ?_)
 refine wpAny_execs_cons (set_stmt I₃ (by decide) (by decide) hself (nm [] _ (by decide) (by decide) (hv _ (by decide))) fun h4 tk4 v4 I₄ e4 => ?_)
 refine wpAny_execs_cons (set_stmt I₄ (by decide) (by decide) hself (nm [] _ (by decide) (by decide) (hv _ (by decide))) fun h5 tk5 v5 I₅ e5 => ?_)
 refine wpAny_execs_cons (set_stmt I₅ (by decide) (by decide) hself (fun y q => by cases q) fun h6 tk6 v6 I₆ e6 => ?_)
 refine wpAny_execs_cons (set_stmt I₆ (by decide) (by decide) hself (fun y q => by cases q) fun h7 tk7 v7 I₇ e7 => ?_)
 refine wpAny_execs_cons (set_stmt I₇ (by decide) (by decide) hself (fun y q => by cases q) fun h8 tk8 v8 I₈ e8 => ?_)
 refine wpAny_execs_cons (set_stmt I₈ (by decide) (by decide) hself (fun y q => by cases q) fun h9 tk9 v9 I₉ e9 => ?_)
 exact wpAny_execs_nil (hQ _ _ _ _ _ I₉ (by rw [e1 _ rfl]; rfl) (by rw [e2 _ rfl]; rfl) (by rw [e3 _ rfl]; rfl))
end
theorem bind2 {s : Shared} {e : Addr} {v1 v2 : Value} (h : s.heap.get? 23 = some ⟨.type "tuple", none, .seq #[.ref 22, .int 0 202, .int 0 203] 0, #[]⟩) :
  BindsTo s initFd ⟨[.ref e, v1, v2], []⟩ [("self", .ref e), ("code", v1), ("value", v2), ("errorcode", .ref 22), ("level", .int 0 202), ("ret", .int 0 203)] :=
 BindsTo.of_defaults rfl h rfl rfl rfl
theorem bind3 {s : Shared} {e : Addr} {v1 v2 v3 : Value} (h : s.heap.get? 23 = some ⟨.type "tuple", none, .seq #[.ref 22, .int 0 202, .int 0 203] 0, #[]⟩) :
  BindsTo s initFd ⟨[.ref e, v1, v2, v3], []⟩ [("self", .ref e), ("code", v1), ("value", v2), ("errorcode", v3), ("level", .int 0 202), ("ret", .int 0 203)] :=
 BindsTo.of_defaults rfl h rfl rfl rfl
theorem reads_strs : ∀ {h : Heap} {vs : List Value} {ls : List Str} {as : List Addr}, ReadsAll h vs (ls.map .str) as -> as = []
 | _, _, [], _, r => by cases r; rfl
 | _, _, _ :: _, _, r => by
  cases r with
  | cons h1 h2 =>
  cases h1
  exact reads_strs h2
structure Facts (W : Wd) (P : Params) : Prop where
 wf : WF W
 C : W.C = 33
 X : (myK P).In W.hR
 exc : W.mg "Exception" = none /\ W.mb "Exception" = some (.type "Exception")
variable {W : Wd} {P : Params}
theorem Facts.at (f : Facts W P) {a : Addr} {o : Obj} (e : (myK P).lookup a = some o) : W.hR.get? a = some o := f.X a o e
theorem Facts.cls (f : Facts W P) : W.hR.get? 33 = some clsO := f.at rfl
theorem Facts.ns (f : Facts W P) : W.hR.Ns 32 clsNs := clsNs_of (P := P) (f.at rfl)
theorem Facts.init (f : Facts W P) : W.hR.get? 30 = some ⟨.type "function", none, .func initFd, #[]⟩ := f.at rfl
theorem Facts.code (f : Facts W P) : W.hR.CodeRec (.ref 29) "Raised.__init__" := codeRec_of f.X rfl
theorem Facts.dfl (f : Facts W P) : W.hR.get? 23 = some ⟨.type "tuple", none, .seq #[.ref 22, .int 0 202, .int 0 203] 0, #[]⟩ := f.at rfl
theorem Facts.none_ (f : Facts W P) : W.hR.get? 22 = some ⟨.type "tuple", none, .seq #[.str "NONE" 201] 0, #[]⟩ := f.at rfl
theorem init_call (f : Facts W P) {A : Around} {h h' : Heap} {g : Array GenState} {d : Drawn} {t : Nat} {os : OsState} {e : Addr} {rest : List Value} {vc vv ve vl vr : Value} {Q : Value -> Shared -> Prop} {E : Value -> Shared -> Prop}
  (hd : A.depth < recursionLimit) (k : W.hR.StaysIn h) (M : Heap.MadeExcOf h h' e (.ref 33) rest)
  (hb : BindsTo ⟨h', g, d, t, os⟩ initFd ⟨.ref e :: rest, []⟩ [("self", .ref e), ("code", vc), ("value", vv), ("errorcode", ve), ("level", vl), ("ret", vr)])
  (hQ : ∀ h₂ tk mA a0 dx oe, h.StaysIn h₂ -> h₂.get? e = some oe -> oe.cls = .ref 33 -> oe.data = .fields #[a0, .none, .none, .none, .bool false, .none] -> oe.dict = some dx -> h₂.Ns1 dx mA -> h.get? dx = none -> dx ≠ e ->
   mA "code" = some vc -> mA "value" = some vv -> mA "errorcode" = some ve -> Q .none ⟨h₂, g, d, tk, os⟩) :
  wpAny (Mw W.w) A (call (.ref 30) (.ref e :: rest)) Q E ⟨h', g, d, t, os⟩ := by
 have kh' : W.hR.StaysIn h' := fun b o q => M.keeps b o (k b o q)
 obtain ⟨t0, he, _, _⟩ := M.there
 refine wpAny_call (codeAny_call_def hd (kh' _ _ f.init) rfl (f.wf.nolimit.keeps kh') (f.code.keeps kh') rfl hb (by decide +kernel) (fun x hx => ?_) (fun h₁ hns hk => ?_) (by kernel_rfl) (by kernel_rfl) (by kernel_rfl))
 ·simp only [List.mem_cons, List.not_mem_nil, or_false] at hx
  rcases hx with rfl | rfl | rfl | rfl | rfl | rfl <;> kernel_rfl
 ·have hE : (callEnv initFd h'.objs.size 30) = iEnv h'.objs.size := rfl
  rw [hE]
  have hsz : (hideAll h' [e]).objs.size = h'.objs.size := hideAll_size _ _
  have hnew : (hideAll h' [e]).get? e = none := hideAll_none _ (.head _)
  have hst : h.StaysIn (hideAll h' [e]) := fun b o q => hideAll_get _ (M.keeps b o q) fun hm => by
   rw [List.mem_singleton] at hm
   rw [hm, M.new] at q; cases q
  have hR₀ : W.hR.StaysIn (hideAll h' [e]) := fun b o q => hst b o (k b o q)
  have F : Fr (hideAll h' [e]) h'.objs.size h₁ (fun x => ([("self", .ref e), ("code", vc), ("value", vv), ("errorcode", ve), ("level", vl), ("ret", vr)] : List (Str × Value)).reverse.lookup x) :=
   ⟨hns, fun b o q => hk b o (of_hideAll _ q), Nat.le_of_eq hsz⟩
  refine init_body (s := ⟨h₁, g, d, t + 6, os⟩) F (hk _ _ he) hnew (hR₀ _ _ f.cls) (f.ns.keeps hR₀) (f.wf.g.keeps hR₀) (f.wf.b.keeps hR₀) f.exc rfl (fun y hy => ?_) fun h₂ tk mA n a0 I c1 c2 c3 => ?_
  ·simp only [List.mem_cons, List.not_mem_nil, or_false] at hy
   rcases hy with rfl | rfl | rfl | rfl | rfl <;> exact ⟨_, rfl⟩
  ·obtain ⟨o, o1, o2, o3, o4⟩ := I.obj
   rcases o4 with ⟨o5, o6⟩ | ⟨dx, o5, o6, o7, o8, o9⟩
   ·rw [o6] at c1; cases c1
   ·exact hQ h₂ tk mA a0 dx o (fun b ob q => I.F.keep b ob (hst b ob q)) o1 o2 o3 o5 o6 (fresh_of_stays hst o7) o8 c1 c2 c3
theorem rb_ok {α β : Type} {r : Rs α} {g : α -> Rs β} {y : β} (h : r.bind g = .ok y) : ∃ x, r = .ok x /\ g x = .ok y := by
 cases r with
 | ok x => exact ⟨x, rfl, h⟩
 | _ => cases h
theorem tk_ok {γ : Type} {p : PyData -> Rs γ} {c : γ -> PyData} (hp : Takes p c) {x : PyData} {i : γ} (h : p x = .ok i) : x = c i := by
 rcases hp x with ⟨j, h1, h2⟩ | h2
 ·rw [h2] at h; cases h; exact h1
 ·rw [h2] at h; cases h
theorem raised_args {args : List PyData} {x : Xc} (h : raisedD args = .ok (.exc x)) : (args = [.int 1, .str x.text] /\ x.code = [⟨#[78, 79, 78, 69]⟩]) \/ args = [.int 1, .str x.text, .tuple (x.code.map .str)] := by
 match args, h with
 | i :: t :: r, h =>
  obtain ⟨i', h1, h⟩ := rb_ok h
  by_cases hi : i' = 1
  ·rw [if_pos hi] at h
   obtain ⟨t', h2, h⟩ := rb_ok h
   obtain ⟨ls, h3, h⟩ := rb_ok h
   cases h
   rw [tk_ok int_takes h1, tk_ok str_takes h2, hi]
   cases r with
   | nil => cases h3; exact .inl ⟨rfl, rfl⟩
   | cons y r =>
    have h3 : (if r.isEmpty then (tupD y).bind fun l => Rs.opt (strsOf l) .ok else .stuck) = Rs.ok ls := h3
    by_cases hr : r.isEmpty = true
    ·rw [if_pos hr] at h3
     obtain ⟨l, h4, h3⟩ := rb_ok h3
     rw [tk_ok tup_takes h4, List.isEmpty_iff.mp hr]
     cases hl : strsOf l with
     | none => rw [hl] at h3; cases h3
     | some ls' => rw [hl] at h3; cases h3; rw [strs_map hl]; exact .inr rfl
    ·rw [if_neg hr] at h3; cases h3
  ·rw [if_neg hi] at h; cases h
theorem raised_call (f : Facts W P) (A : Around) (outer : List Env) (s : Shared) (vs : List Value) (as : List Addr) (args : List PyData) (x : Xc) (Q E : Value -> Shared -> Prop)
  (_hA : A.handled = none) (hd : A.depth + 3 < recursionLimit) (_hu : A.units + 80 < cLine) (_hf : A.frames = some outer) (k : W.hR.StaysIn s.heap) (ra : ReadsAll s.heap vs args as) (hr : raisedD args = .ok (.exc x))
  (hQ : ∀ e s', Grow s s' -> NewX W.C s.heap s'.heap e x -> Q (.ref e) s') : wpAny (Mw W.w) A (PySem.call (.ref W.C) vs) Q E s := by
 obtain ⟨h, g, d, t, os⟩ := s
 rw [f.C] at hQ ⊢
 have fin : ∀ (vc vv ve : Value) (t1 t2 : Tok), vc = .int 1 t1 -> vv = .str x.text t2 -> (∀ h₂ : Heap, h.StaysIn h₂ -> Reads h₂ ve (.tuple (x.code.map .str)) []) ->
   ∀ e h₂ tk mA a0 dx oe, h.get? e = none -> h.StaysIn h₂ -> h₂.get? e = some oe -> oe.cls = .ref 33 -> oe.data = .fields #[a0, .none, .none, .none, .bool false, .none] -> oe.dict = some dx -> h₂.Ns1 dx mA -> h.get? dx = none -> dx ≠ e ->
   mA "code" = some vc -> mA "value" = some vv -> mA "errorcode" = some ve -> Q (.ref e) ⟨h₂, g, d, tk, os⟩ := by
  rintro vc vv ve t1 t2 rfl rfl hve e h₂ tk mA a0 dx oe hen kk o1 o2 o3 o4 o5 o6 o7 c1 c2 c3
  exact hQ e ⟨h₂, g, d, tk, os⟩ ⟨h₂, tk, rfl, kk⟩ ⟨kk, hen, oe, _, dx, a0, o1, o2, o4, o6, o7, ⟨mA, o5, ⟨_, c1⟩, ⟨_, c2⟩, ve, c3, hve h₂ kk⟩, o3, rfl, rfl, rfl⟩
 have hdd : ∀ vs : List Value, (A.under (.builtin "type.__call__" ⟨.ref 33 :: vs, []⟩)).depth < recursionLimit := by
  intro vs
  have : (A.under (.builtin "type.__call__" ⟨.ref 33 :: vs, []⟩)).depth = A.depth + 1 := rfl
  rw [this]; lia
 rcases raised_args hr with ⟨rfl, hx⟩ | rfl
 ·obtain ⟨v1, _, _, _, rfl, r1, ra, -⟩ := rda_cons ra
  obtain ⟨v2, rfl, r2⟩ := rda_one ra
  obtain ⟨t1, rfl⟩ := rd_int r1
  obtain ⟨t2, rfl⟩ := rd_str r2
  refine wpAny_call_exc_init PySem.F.excBase_Exception (k _ _ f.cls) (f.ns.keeps k) (fI := 30) (by rfl) (k _ _ f.init) rfl (fun h' e M => ?_) (by size_fits)
  have kh' : W.hR.StaysIn h' := fun b o q => M.keeps b o (k b o q)
  refine init_call f (hdd _) k M (bind2 (s := ⟨h', g, d, t, os⟩) (kh' _ _ f.dfl)) fun h₂ tk mA a0 dx oe kk o1 o2 o3 o4 o5 o6 o7 c1 c2 c3 => ⟨rfl, fin _ _ _ _ _ rfl rfl (fun h₂ kk => ?_) e h₂ tk mA a0 dx oe M.new kk o1 o2 o3 o4 o5 o6 o7 c1 c2 c3⟩
  rw [hx]
  exact .tuple (kk _ _ (k _ _ f.none_)) rfl rfl (.cons (.str _ _) .nil)
 ·obtain ⟨v1, _, _, _, rfl, r1, ra, -⟩ := rda_cons ra
  obtain ⟨v2, _, _, _, rfl, r2, ra, -⟩ := rda_cons ra
  obtain ⟨v3, rfl, r3⟩ := rda_one ra
  obtain ⟨t1, rfl⟩ := rd_int r1
  obtain ⟨t2, rfl⟩ := rd_str r2
  refine wpAny_call_exc_init PySem.F.excBase_Exception (k _ _ f.cls) (f.ns.keeps k) (fI := 30) (by rfl) (k _ _ f.init) rfl (fun h' e M => ?_) (by size_fits)
  have kh' : W.hR.StaysIn h' := fun b o q => M.keeps b o (k b o q)
  refine init_call f (hdd _) k M (bind3 (s := ⟨h', g, d, t, os⟩) (kh' _ _ f.dfl)) fun h₂ tk mA a0 dx oe kk o1 o2 o3 o4 o5 o6 o7 c1 c2 c3 => ⟨rfl, fin _ _ _ _ _ rfl rfl (fun h₂ kk => ?_) e h₂ tk mA a0 dx oe M.new kk o1 o2 o3 o4 o5 o6 o7 c1 c2 c3⟩
  obtain ⟨a, vs, rfl, -, q4⟩ := rd_tup r3
  have := reads_strs q4
  subst this
  exact Reads.keeps kk r3
theorem keep33 (P : Params) : keepIn (myK P) (.ref 33) = true := by kernel_rfl
theorem with_ok (f : Facts W P) (A : Around) (env : Env) (s : Shared) (pos : Pos) (e : Expr) (rest : List Expr) (Q E : Value -> Shared -> Prop) (_k : W.hR.StaysIn s.heap) (he : starEach (e :: rest) env = (false, eval e env) :: starEach rest env)
  (ha : ((backTo pos (starEach rest env)).any (·.1)) = false)
  (h : wpAny (Mw W.w) A (spliced (backTo pos (starEach (e :: rest) env))) (fun vs s₁ => W.hR.StaysIn s₁.heap /\ wpAny (Mw W.w) A (PySem.call (.ref W.C) vs) Q E s₁) E s) :
  wpAny (Mw W.w) A (callWith pos (.ref W.C) [] (backTo pos (starEach (e :: rest) env)) []) Q E s := by
 rw [f.C] at h ⊢
 have h' : wpAny (Mw W.w) A (spliced (backTo pos (starEach (e :: rest) env))) (fun vs s₁ => (myK P).In s₁.heap /\ wpAny (Mw W.w) A (PySem.call (.ref 33) ([] ++ vs) []) Q E s₁) E s := wpAny_mono h (fun vs s₁ q => ⟨f.X.keeps q.1, q.2⟩) fun _ _ q => q
 rw [he] at h' ⊢
 exact callWith_of (P := (myK P).In) (by show ((false || (backTo pos (starEach rest env)).any (·.1)) || false) = false; rw [ha]; rfl) (fun h X => keeps_K (keep33 P) h X) (evalArgs_plain h')
theorem clsOk (f : Facts W P) (hn : W.mg "Raised" = some (.ref W.C)) : ClsOk W := ⟨hn, raised_call f, with_ok f⟩
theorem raiseOk (f : Facts W P) : RaiseOk W := by
 intro A env xm s Q E x hA h
 refine raise_made hA (wpAny_mono h (fun v s₁ q => ?_) fun _ _ q => q)
 obtain ⟨e, h₀, rfl, N, k, hE⟩ := q
 rw [f.C] at N
 obtain ⟨_, _, oe, vs, dd, a0, c1, c2, c3, c4, c5, c6, c7, c8, c9, c10⟩ := N
 exact ⟨e, oe, vs, rfl, k _ _ f.cls, c1, c2, c7, c9, hE⟩
theorem Reads.upTo {h h' : Heap} (u : h.UpToSlots h') {v : Value} {d : PyData} {as : List Addr} (r : Reads h v d as) : Reads h' v d as :=
 (reads_conv (G := fun _ => True) fun b o h1 h2 _ => let ⟨_, e⟩ := u b o h1 h2; ⟨_, e, rfl, rfl⟩).1 r fun _ _ => trivial
theorem XDict.upTo {h h' : Heap} {dd : Addr} {x : Xc} (u : h.UpToSlots h') (X : XDict h dd x) : XDict h' dd x := by
 obtain ⟨mA, ⟨o, es, ep, d1, d2, d3⟩, a, b, v, c1, c2⟩ := X
 obtain ⟨sl, e⟩ := u _ _ d1 (fun vs q => by rw [d2] at q; cases q)
 exact ⟨mA, ⟨_, es, ep, e, d2, d3⟩, a, b, v, c1, Reads.upTo u c2⟩
noncomputable def XAt (C : Addr) (h base : Heap) (e : Addr) (x : Xc) (fl : Value) : Prop :=
 ∃ oe vs T oT ts dd, h.get? e = some oe /\ oe.cls = .ref C /\ oe.dict = some dd /\ base.get? dd = none /\ dd ≠ e /\ XDict h dd x /\ oe.data = .fields vs /\ vs[1]? = some (.ref T) /\ base.get? T = none /\ T ≠ e /\ h.get? T = some oT /\ oT.data = .fields ts /\ ts[3]? = some fl
theorem mapF_dict {o : Obj} {vs : Array Value} (hd : o.data = .fields vs) (f : Array Value -> Array Value) : (o.mapFields f).dict = o.dict := by
 obtain ⟨c, d, dt, sl⟩ := o
 dsimp only at hd
 subst hd
 rfl
section
variable {M : Model} {A : Around} {E : Value -> Shared -> Prop} {s : Shared} {base : Heap} {env : Env} {outer : List Env} {L e C : Addr} {x : Xc}
theorem entry_x {oe : Obj} {vs : Array Value} {dd : Addr} {head : Value} {hadNext : Bool} {Q : Unit -> Shared -> Prop}
  (hfr : A.frames = some (env :: outer)) (hl : s.heap.FunFrames base (env :: outer)) (hf : env.frame = some L)
  (he : s.heap.get? e = some oe) (hkb : base.StaysIn s.heap) (hen : base.get? e = none) (hd : oe.data = .fields vs) (hsz : 1 < vs.size)
  (hc : oe.cls = .ref C) (hdd : oe.dict = some dd) (hbd : base.get? dd = none) (hde : dd ≠ e) (hX : XDict s.heap dd x)
  (h : ∀ h', base.StaysIn h' -> h'.FunFrames base (env :: outer) -> XAt C h' base e x (rawInt L) -> s.heap.UpToSlots h' -> Q () { s with heap := h' }) :
  wpAny M A (do let a <- frameOf env; let pl <- entryPlaceOf L hadNext; let b <- EntryCells.newEntry head a .none (rawInt L) .none pl; setField (.ref e) 1 b) Q E s := by
 have hene : e ∉ (env :: outer).filterMap (·.frame) := fun hm => by
  obtain ⟨_, o, ho, hnf⟩ := hl.mem hm
  rw [he] at ho; cases ho
  exact hnf vs hd
 refine wpAny_bind (wpAny_frameOf_fun hfr hl hf fun h₁ hs₁ => ?_)
 refine wpAny_bind (wpAny_entryPlaceOf fun pl hpl => ?_)
 unfold EntryCells.newEntry newFields
 refine wpAny_bind (wpAny_newObj_type ?_ (hpl.sizeOk5 _ _ _ _ _))
 have he₁ : h₁.get? e = some oe := (hs₁.2.1 e hene).trans he
 generalize hoT : ({ cls := .type "traceback", dict := none, data := .fields ([head, .ref L, .none, rawInt L, .none] ++ (if pl.isEmpty then List.replicate 6 Value.none else pl)).toArray } : Obj) = oT
 have hT := Heap.get?_push_size h₁ (o := oT) (by rw [<- hoT]; rfl)
 have hoTd : oT.data = .fields ([head, .ref L, .none, rawInt L, .none] ++ (if pl.isEmpty then List.replicate 6 Value.none else pl)).toArray := by rw [<- hoT]
 have he₂ := Heap.get?_push_of_some (h := h₁) oT he₁
 refine wpAny_setField he₂ hd hsz ?_
 have hTe : h₁.objs.size ≠ e := Nat.ne_of_gt (Heap.lt_size he₁)
 have he₃ := Heap.get?_update_self (Obj.mapFields (·.setIfInBounds 1 (Value.ref h₁.objs.size))) he₂ (Obj.isFreed_of_fields (Obj.data_mapFields hd _))
 have keep : ∀ b o, b ≠ e -> h₁.get? b = some o -> ((h₁.push oT).update e (Obj.mapFields (·.setIfInBounds 1 (Value.ref h₁.objs.size)))).get? b = some o := fun b o hb q => by
  rw [Heap.get?_update_other _ _ (Ne.symm hb)]
  exact Heap.get?_push_of_some _ q
 have k2 : base.StaysIn ((h₁.push oT).update e (Obj.mapFields (·.setIfInBounds 1 (Value.ref h₁.objs.size)))) := fun b o q =>
  keep b o (fun z => by rw [z, hen] at q; cases q) ((hs₁.2.1 b fun hm => by rw [(hl.mem hm).1] at q; cases q).trans (hkb b o q))
 have u : s.heap.UpToSlots ((h₁.push oT).update e (Obj.mapFields (·.setIfInBounds 1 (Value.ref h₁.objs.size)))) := fun b o q hn => by
  obtain ⟨sl, q'⟩ := hs₁.2.2 b o q
  exact ⟨sl, keep b _ (fun z => by rw [z, he] at q; cases q; exact hn vs hd) q'⟩
 refine h _ k2 (hl.of_keeps fun b o q hn => ?_) ?_ u
 ·obtain ⟨sl, q'⟩ := u b o q hn
  exact ⟨_, q', rfl⟩
 ·refine ⟨_, _, h₁.objs.size, oT, _, dd, he₃, (Obj.cls_mapFields _ _).trans hc, (mapF_dict hd _).trans hdd, hbd, hde, hX.upTo u, Obj.data_mapFields hd _, by simp [hsz], ?_, hTe, ?_, hoTd, by simp⟩
  ·cases q : base.get? h₁.objs.size with
   | none => rfl
   | some o =>
    exfalso
    have := Heap.lt_size (hkb _ _ q)
    rw [hs₁.1] at this
    exact Nat.lt_irrefl _ this
  ·rw [Heap.get?_update_other _ _ (Ne.symm hTe)]
   exact hT
theorem note_first {oe : Obj} {vs : Array Value} {dd : Addr} {Q : Unit -> Shared -> Prop}
  (hfr : A.frames = some (env :: outer)) (hl : s.heap.FunFrames base (env :: outer)) (hf : env.frame = some L)
  (he : s.heap.get? e = some oe) (hkb : base.StaysIn s.heap) (hen : base.get? e = none) (hd : oe.data = .fields vs) (h1 : vs[1]? = some .none)
  (hc : oe.cls = .ref C) (hdd : oe.dict = some dd) (hbd : base.get? dd = none) (hde : dd ≠ e) (hX : XDict s.heap dd x)
  (h : ∀ h', base.StaysIn h' -> h'.FunFrames base (env :: outer) -> XAt C h' base e x (rawInt L) -> s.heap.UpToSlots h' -> Q () { s with heap := h' }) : wpAny M A (noteFrame (.ref e) env) Q E s := by
 unfold noteFrame
 simp only [hf]
 refine wpAny_bind (wpAny_field he hd h1 ?_)
 rw [if_neg (by decide)]
 exact entry_x hfr hl hf he hkb hen hd (Array.getElem?_eq_some_iff.mp h1).1 hc hdd hbd hde hX h
theorem note_on {Q : Unit -> Shared -> Prop} (hfr : A.frames = some (env :: outer)) (hf : env.frame = some L) (X : FlyX C base (env :: outer) e x s.heap)
  (h : ∀ h', base.StaysIn h' -> h'.FunFrames base (env :: outer) -> XAt C h' base e x (rawInt L) -> s.heap.UpToSlots h' -> Q () { s with heap := h' }) : wpAny M A (noteFrame (.ref e) env) Q E s := by
 obtain ⟨hkb, hen, hl, oe, vs, T, oT, ts, dd, he, hc, hdd, hbd, hde, hX, hd, h1, hnT, hTe, hT, hdT, h3⟩ := X
 unfold noteFrame
 simp only [hf]
 refine wpAny_bind (wpAny_field he hd h1 ?_)
 rw [if_pos (show (Value.ref T != Value.none) = true from by simp)]
 refine wpAny_bind (wpAny_field hT hdT h3 ?_)
 rw [if_neg (show ¬ ((Value.none == rawInt L) = true) from by simp [rawInt])]
 refine wpAny_bind (wpAny_setField hT hdT (Array.getElem?_eq_some_iff.mp h3).1 ?_)
 have other : ∀ b, b ≠ T -> (s.heap.update T (Obj.mapFields (·.setIfInBounds 3 Value.none))).get? b = s.heap.get? b := fun b hb => Heap.get?_update_other _ _ (Ne.symm hb)
 have u : s.heap.UpToSlots (s.heap.update T (Obj.mapFields (·.setIfInBounds 3 Value.none))) := fun b o q hn =>
  ⟨o.slots, (other b fun z => by rw [z, hT] at q; cases q; exact hn ts hdT).trans q⟩
 refine entry_x (s := { s with heap := s.heap.update T (Obj.mapFields (·.setIfInBounds 3 Value.none)) }) hfr (hl.of_keeps fun b o q hn => ?_) hf ((other e (Ne.symm hTe)).trans he) (fun b o q => (other b fun z => by rw [z, hnT] at q; cases q).trans (hkb b o q)) hen hd (Array.getElem?_eq_some_iff.mp h1).1 hc hdd hbd hde (hX.upTo u)
  fun h' k1 k2 k3 k4 => h h' k1 k2 k3 (u.trans k4)
 obtain ⟨sl, q'⟩ := u b o q hn
 exact ⟨_, q', rfl⟩
theorem flight_x {l : List Env} {fl : Value} {Q : Unit -> Shared -> Prop} (hkb : base.StaysIn s.heap) (hl : s.heap.FunFrames base l) (X : XAt C s.heap base e x fl)
  (h : ∀ h', base.StaysIn h' -> h'.FunFrames base l -> XAt C h' base e x .none -> s.heap.UpToSlots h' -> Q () { s with heap := h' }) : wpAny M A (setFlight (.ref e) none) Q E s := by
 obtain ⟨oe, vs, T, oT, ts, dd, he, hc, hdd, hbd, hde, hX, hd, h1, hnT, hTe, hT, hdT, h3⟩ := X
 have hsz3 : 3 < ts.size := (Array.getElem?_eq_some_iff.mp h3).1
 have other : ∀ b, b ≠ T -> (s.heap.update T (Obj.mapFields (·.setIfInBounds 3 ((none : Option Addr).elim Value.none fun f => rawInt f)))).get? b = s.heap.get? b :=
  fun b hb => Heap.get?_update_other _ _ (Ne.symm hb)
 have u : s.heap.UpToSlots (s.heap.update T (Obj.mapFields (·.setIfInBounds 3 ((none : Option Addr).elim Value.none fun f => rawInt f)))) := fun b o q hn =>
  ⟨o.slots, (other b fun z => by rw [z, hT] at q; cases q; exact hn ts hdT).trans q⟩
 unfold setFlight
 refine wpAny_bind (wpAny_field he hd h1 ?_)
 rw [if_pos (show (Value.ref T != Value.none) = true from by simp)]
 refine wpAny_setField hT hdT hsz3 (h _ (fun b o q => (other b fun z => by rw [z, hnT] at q; cases q).trans (hkb b o q)) (hl.of_keeps fun b o q hn => ?_) ?_ u)
 ·obtain ⟨sl, q'⟩ := u b o q hn
  exact ⟨_, q', rfl⟩
 ·exact ⟨oe, vs, T, _, _, dd, (other e (Ne.symm hTe)).trans he, hc, hdd, hbd, hde, hX.upTo u, hd, h1, hnT, hTe, Heap.get?_update_self _ hT (Obj.isFreed_of_fields (Obj.data_mapFields hdT _)), Obj.data_mapFields hdT _, by simp [hsz3]⟩
end
theorem TrX.base {C : Addr} {h base B : Heap} {e : Addr} {x : Xc} (k : base.StaysIn B) (X : TrX C h B e x) : TrX C h base e x := by
 obtain ⟨oe, vs, T, oT, ts, dd, a1, a2, a3, a4, a5, a6, a7, a8, a9, b⟩ := X
 exact ⟨oe, vs, T, oT, ts, dd, a1, a2, a3, fresh_of_stays k a4, a5, a6, a7, a8, fresh_of_stays k a9, b⟩
theorem hide_cons {h : Heap} {L : Addr} {l : List Addr} (hL : h.get? L = none) : (hideAll h l).StaysIn (hideAll h (L :: l)) := fun b o q => by
 refine hideAll_get _ (of_hideAll _ q) fun hm => ?_
 rcases List.mem_cons.mp hm with rfl | hm
 ·have := of_hideAll _ q
  rw [hL] at this; cases this
 ·rw [hideAll_none _ hm] at q; cases q
section
variable {f : Fm}
theorem leave_frame (O : f.Ok) (hL : f.h₀.get? f.L = none) {s₀ s' : Shared} {e : Value} {x : Xc} (X : ExS f s₀ e s' x) {Q : Unit -> Shared -> Prop} {E : Value -> Shared -> Prop}
  (hQ : ∀ s'', Sm s₀ s'' -> (∃ a, e = .ref a /\ FlyX f.W.C (hideAll f.h₀ (framesOf f.outer)) f.outer a x s''.heap /\ f.h₀.UpToSlots s''.heap) -> Q () s'') :
  wpAny (Mw f.W.w) f.A (leaving f.env e) Q E s' := by
 obtain ⟨sm, a, rfl, hX⟩ := X
 have hfl : framesOf (f.env :: f.outer) = f.L :: framesOf f.outer := rfl
 have hB : (hideAll f.h₀ (framesOf f.outer)).StaysIn (hideAll f.h₀ (framesOf (f.env :: f.outer))) := by rw [hfl]; exact hide_cons hL
 have fin : ∀ h', (hideAll f.h₀ (framesOf (f.env :: f.outer))).get? a = none -> (hideAll f.h₀ (framesOf (f.env :: f.outer))).StaysIn h' -> h'.FunFrames (hideAll f.h₀ (framesOf (f.env :: f.outer))) (f.env :: f.outer) ->
   XAt f.W.C h' (hideAll f.h₀ (framesOf (f.env :: f.outer))) a x (rawInt f.L) -> f.h₀.UpToSlots h' -> wpAny (Mw f.W.w) f.A (setFlight (.ref a) none) Q E { s' with heap := h' } := by
  intro h' hen k1 k2 k3 k4
  refine flight_x (s := { s' with heap := h' }) k1 k2 k3 fun h₂ g1 g2 g3 g4 => ?_
  refine hQ _ (sm.trans ⟨_, _, rfl⟩) ⟨a, rfl, ⟨fun b o q => g1 b o (hB b o q), fresh_of_stays hB hen, funFrames_base hB g2.2.2, TrX.base hB g3⟩, k4.trans g4⟩
 unfold leaving
 rcases hX with ⟨hF, u⟩ | ⟨N, m, F⟩
 ·exact wpAny_bind (note_on O.frames rfl hF fun h' k1 k2 k3 k4 => fin h' hF.2.1 k1 k2 k3 (u.trans k4))
 ·obtain ⟨n1, n2, oe, vs, dd, a0, c1, c2, c3, c4, c5, c6, c7, c8, c9, c10⟩ := N
  have K' := pushX (name := f.qual) (a := f.fa) (cd := f.cd) (cl := f.cl) O.below F O.kind
  have kh : (hideAll f.h₀ (framesOf (f.env :: f.outer))).StaysIn f.h₀ := fun b o q => of_hideAll _ q
  have hl : s'.heap.FunFrames (hideAll f.h₀ (framesOf (f.env :: f.outer))) (f.env :: f.outer) := by
   refine funFrames_base (B := hideAll s'.heap (framesOf (f.env :: f.outer))) (fun b o q => ?_) (funFrames_hide K'.frames fun env he b hb => List.mem_filterMap.mpr ⟨env, he, hb⟩)
   refine hideAll_get _ (n1 b o (of_hideAll _ q)) fun hm => ?_
   rw [hideAll_none _ hm] at q; cases q
  exact wpAny_bind (note_first O.frames hl rfl c1 (fun b o q => n1 b o (of_hideAll _ q)) (fresh_of_stays kh n2) c7 c9 c2 c3 (fresh_of_stays kh c4) c5 c6 fun h' k1 k2 k3 k4 => fin h' (fresh_of_stays kh n2) k1 k2 k3 ((Heap.UpToSlots.of_keeps n1).trans k4))
end
end Mine
namespace Mine
open PySem PyProof.Rows
noncomputable def cm4 : Cm :=
 (.ret (.cmp .in_ (.v 0) (.tup (.cons (.str ⟨#[32]⟩) (.cons (.str ⟨#[9]⟩) (.cons (.str ⟨#[10]⟩) (.cons (.str ⟨#[11]⟩) (.cons (.str ⟨#[12]⟩) (.cons (.str ⟨#[13]⟩) .nil)))))))))
noncomputable def cm5 : Cm :=
 (.seq (.ite (.cmp .ne (.bi .len (.v 0)) (.int 1))
 (.ret (.neg (.int 1))) .skip)
 (.seq (.set 1 (.bi .ord (.v 0)))
 (.seq (.ite (.cmp2 .le .le (.int 48) (.v 1) (.int 57))
 (.ret (.bin .sub (.v 1) (.int 48))) .skip)
 (.seq (.ite (.cmp2 .le .le (.int 97) (.v 1) (.int 122))
 (.ret (.bin .sub (.v 1) (.int 87))) .skip)
 (.seq (.ite (.cmp2 .le .le (.int 65) (.v 1) (.int 90))
 (.ret (.bin .sub (.v 1) (.int 55))) .skip)
 (.ret (.neg (.int 1))))))))
noncomputable def cm6 : Cm :=
 (.seq (.ite (.cmp .eq (.v 0) (.str ⟨#[]⟩))
 (.ret .none) .skip)
 (.seq (.set 2 (.int 0))
 (.seq (.forE 3 (.v 0)
 (.seq (.set 4 (.call 5 (.cons (.v 3) .nil)))
 (.seq (.ite (.or (.cons (.cmp .lt (.v 4) (.int 0)) (.cons (.cmp .ge (.v 4) (.v 1)) .nil)))
 (.ret .none) .skip)
 (.set 2 (.bin .add (.bin .mul (.v 2) (.v 1)) (.v 4))))))
 (.ret (.v 2)))))
noncomputable def cm7 : Cm :=
 (.seq (.ite (.cmp .in_ (.v 0) (.tup (.cons (.str ⟨#[120]⟩) (.cons (.str ⟨#[88]⟩) .nil))))
 (.ret (.int 16)) .skip)
 (.seq (.ite (.cmp .in_ (.v 0) (.tup (.cons (.str ⟨#[111]⟩) (.cons (.str ⟨#[79]⟩) .nil))))
 (.ret (.int 8)) .skip)
 (.seq (.ite (.cmp .in_ (.v 0) (.tup (.cons (.str ⟨#[98]⟩) (.cons (.str ⟨#[66]⟩) .nil))))
 (.ret (.int 2)) .skip)
 (.seq (.ite (.cmp .in_ (.v 0) (.tup (.cons (.str ⟨#[100]⟩) (.cons (.str ⟨#[68]⟩) .nil))))
 (.ret (.int 10)) .skip)
 (.ret (.int 0))))))
noncomputable def cm11 : Cm :=
 (.seq (.set 2 (.slSS (.v 0) (.bin .add (.v 1) (.int 1)) (.bin .add (.v 1) (.int 2))))
 (.seq (.ite (.cmp .eq (.v 2) (.str ⟨#[]⟩))
 (.ret (.tup (.cons (.str ⟨#[92]⟩) (.cons (.bin .add (.v 1) (.int 1)) .nil)))) .skip)
 (.seq (.set 3 (.me .find (.str ⟨#[97, 98, 102, 110, 114, 116, 118]⟩) (.cons (.v 2) .nil)))
 (.seq (.ite (.cmp .ge (.v 3) (.int 0))
 (.ret (.tup (.cons (.idx (.str ⟨#[7, 8, 12, 10, 13, 9, 11]⟩) (.v 3)) (.cons (.bin .add (.v 1) (.int 2)) .nil)))) .skip)
 (.seq (.ite (.cmp .eq (.v 2) (.str ⟨#[10]⟩))
 (.seq (.set 4 (.bin .add (.v 1) (.int 2)))
 (.seq (.wh (.cmp .in_ (.slSS (.v 0) (.v 4) (.bin .add (.v 4) (.int 1))) (.tup (.cons (.str ⟨#[32]⟩) (.cons (.str ⟨#[9]⟩) .nil))))
 (.aug 4 .add (.int 1)))
 (.ret (.tup (.cons (.str ⟨#[32]⟩) (.cons (.v 4) .nil)))))) .skip)
 (.seq (.ite (.cmp .in_ (.v 2) (.tup (.cons (.str ⟨#[120]⟩) (.cons (.str ⟨#[117]⟩) (.cons (.str ⟨#[85]⟩) .nil)))))
 (.ret (.call 9 (.cons (.v 0) (.cons (.bin .add (.v 1) (.int 1)) .nil)))) .skip)
 (.seq (.ite (.cmp .in_ (.v 2) (.tup (.cons (.str ⟨#[48]⟩) (.cons (.str ⟨#[49]⟩) (.cons (.str ⟨#[50]⟩) (.cons (.str ⟨#[51]⟩) (.cons (.str ⟨#[52]⟩) (.cons (.str ⟨#[53]⟩) (.cons (.str ⟨#[54]⟩) (.cons (.str ⟨#[55]⟩) .nil))))))))))
 (.ret (.call 10 (.cons (.v 0) (.cons (.bin .add (.v 1) (.int 1)) .nil)))) .skip)
 (.ret (.tup (.cons (.v 2) (.cons (.bin .add (.v 1) (.int 2)) .nil)))))))))))
noncomputable def cm12 : Cm :=
 (.ret (.cmp .in_ (.v 0) (.tup (.cons (.str ⟨#[32]⟩) (.cons (.str ⟨#[9]⟩) (.cons (.str ⟨#[11]⟩) (.cons (.str ⟨#[12]⟩) (.cons (.str ⟨#[13]⟩) .nil))))))))
noncomputable def cm13 : Cm :=
 (.seq (.wh (.cmp .lt (.v 1) (.bi .len (.v 0)))
 (.ite (.call 12 (.cons (.idx (.v 0) (.v 1)) .nil))
 (.aug 1 .add (.int 1)) (.ite (.cmp .eq (.slSS (.v 0) (.v 1) (.bin .add (.v 1) (.int 2))) (.str ⟨#[92, 10]⟩))
 (.aug 1 .add (.int 2)) (.ret (.v 1)))))
 (.ret (.v 1)))
noncomputable def cm14 : Cm :=
 (.seq (.set 2 (.bi .len (.v 0)))
 (.seq (.wh (.cmp .lt (.v 1) (.v 2))
 (.ite (.cmp .eq (.idx (.v 0) (.v 1)) (.str ⟨#[92]⟩))
 (.aug 1 .add (.int 2)) (.ite (.cmp .eq (.idx (.v 0) (.v 1)) (.str ⟨#[10]⟩))
 (.ret (.bin .add (.v 1) (.int 1))) (.aug 1 .add (.int 1)))))
 (.ret (.v 2))))
noncomputable def cm15 : Cm :=
 (.seq (.set 1 (.call 13 (.cons (.v 0) (.cons (.v 1) .nil))))
 (.seq (.wh (.cmp .in_ (.slSS (.v 0) (.v 1) (.bin .add (.v 1) (.int 1))) (.tup (.cons (.str ⟨#[10]⟩) (.cons (.str ⟨#[59]⟩) (.cons (.str ⟨#[35]⟩) .nil)))))
 (.seq (.ite (.cmp .eq (.idx (.v 0) (.v 1)) (.str ⟨#[35]⟩))
 (.set 1 (.call 14 (.cons (.v 0) (.cons (.v 1) .nil)))) (.aug 1 .add (.int 1)))
 (.set 1 (.call 13 (.cons (.v 0) (.cons (.v 1) .nil))))))
 (.ret (.v 1))))
noncomputable def cm16 : Cm :=
 (.seq (.wh (.cmp .lt (.v 1) (.bi .len (.v 0)))
 (.ite (.or (.cons (.cmp .eq (.idx (.v 0) (.v 1)) (.str ⟨#[95]⟩)) (.cons (.cmp .ge (.call 5 (.cons (.idx (.v 0) (.v 1)) .nil)) (.int 0)) .nil)))
 (.aug 1 .add (.int 1)) (.ite (.cmp .eq (.slSS (.v 0) (.v 1) (.bin .add (.v 1) (.int 2))) (.str ⟨#[58, 58]⟩))
 (.seq (.aug 1 .add (.int 2))
 (.wh (.cmp .eq (.slSS (.v 0) (.v 1) (.bin .add (.v 1) (.int 1))) (.str ⟨#[58]⟩))
 (.aug 1 .add (.int 1)))) (.ret (.v 1)))))
 (.ret (.v 1)))
noncomputable def cm17 : Cm :=
 (.seq (.set 2 (.bin .add (.v 1) (.int 1)))
 (.seq (.ite (.cmp .eq (.slSS (.v 0) (.v 2) (.bin .add (.v 2) (.int 1))) (.str ⟨#[123]⟩))
 (.seq (.set 3 (.me .find (.v 0) (.cons (.str ⟨#[125]⟩) (.cons (.v 2) .nil))))
 (.seq (.ite (.cmp .lt (.v 3) (.int 0))
 (.raise (.call 2 (.cons (.str ⟨#[109, 105, 115, 115, 105, 110, 103, 32, 99, 108, 111, 115, 101, 45, 98, 114, 97, 99, 101, 32, 102, 111, 114, 32, 118, 97, 114, 105, 97, 98, 108, 101, 32, 110, 97, 109, 101]⟩) .nil))) .skip)
 (.ret (.tup (.cons (.tup (.cons (.str ⟨#[118, 97, 114]⟩) (.cons (.slSS (.v 0) (.bin .add (.v 2) (.int 1)) (.v 3)) (.cons .none .nil)))) (.cons (.bin .add (.v 3) (.int 1)) .nil)))))) .skip)
 (.seq (.set 4 (.call 16 (.cons (.v 0) (.cons (.v 2) .nil))))
 (.seq (.ite (.cmp .eq (.slSS (.v 0) (.v 4) (.bin .add (.v 4) (.int 1))) (.str ⟨#[40]⟩))
 (.seq (.setT [5, 3] (.call 20 (.cons (.v 0) (.cons (.bin .add (.v 4) (.int 1)) (.cons (.tup (.cons (.str ⟨#[41]⟩) .nil)) .nil)))))
 (.seq (.ite (.cmp .ge (.v 3) (.bi .len (.v 0)))
 (.raise (.call 2 (.cons (.str ⟨#[109, 105, 115, 115, 105, 110, 103, 32, 41]⟩) .nil))) .skip)
 (.ret (.tup (.cons (.tup (.cons (.str ⟨#[118, 97, 114]⟩) (.cons (.slSS (.v 0) (.v 2) (.v 4)) (.cons (.v 5) .nil)))) (.cons (.bin .add (.v 3) (.int 1)) .nil)))))) .skip)
 (.seq (.ite (.cmp .eq (.v 4) (.v 2))
 (.ret (.tup (.cons (.tup (.cons (.str ⟨#[116, 101, 120, 116]⟩) (.cons (.str ⟨#[36]⟩) .nil))) (.cons (.v 2) .nil)))) .skip)
 (.ret (.tup (.cons (.tup (.cons (.str ⟨#[118, 97, 114]⟩) (.cons (.slSS (.v 0) (.v 2) (.v 4)) (.cons .none .nil)))) (.cons (.v 4) .nil)))))))))
noncomputable def cm18 : Cm :=
 (.seq (.set 2 (.bin .add (.v 1) (.int 1)))
 (.seq (.set 3 (.call 15 (.cons (.v 0) (.cons (.v 2) .nil))))
 (.seq (.wh (.and (.cons (.cmp .lt (.v 3) (.bi .len (.v 0))) (.cons (.cmp .ne (.idx (.v 0) (.v 3)) (.str ⟨#[93]⟩)) .nil)))
 (.seq (.set 4 (.call 24 (.cons (.v 0) (.cons (.v 3) (.cons (.bool true) .nil)))))
 (.set 3 (.call 15 (.cons (.v 0) (.cons (.idx (.v 4) (.int 3)) .nil))))))
 (.seq (.ite (.cmp .ge (.v 3) (.bi .len (.v 0)))
 (.raise (.call 2 (.cons (.str ⟨#[109, 105, 115, 115, 105, 110, 103, 32, 99, 108, 111, 115, 101, 45, 98, 114, 97, 99, 107, 101, 116]⟩) .nil))) .skip)
 (.ret (.tup (.cons (.slSS (.v 0) (.v 2) (.v 3)) (.cons (.bin .add (.v 3) (.int 1)) .nil))))))))
noncomputable def cm19 : Cm :=
 (.seq (.set 2 (.bi .len (.v 0)))
 (.seq (.set 3 (.bin .add (.v 1) (.int 1)))
 (.seq (.set 4 (.v 3))
 (.seq (.set 5 (.str ⟨#[]⟩))
 (.seq (.set 6 (.int 1))
 (.seq (.wh (.cmp .lt (.v 4) (.v 2))
 (.ite (.cmp .eq (.idx (.v 0) (.v 4)) (.str ⟨#[123]⟩))
 (.seq (.aug 6 .add (.int 1))
 (.aug 4 .add (.int 1))) (.ite (.cmp .eq (.idx (.v 0) (.v 4)) (.str ⟨#[125]⟩))
 (.seq (.aug 6 .sub (.int 1))
 (.seq (.aug 4 .add (.int 1))
 (.ite (.cmp .eq (.v 6) (.int 0))
 (.ret (.tup (.cons (.bin .add (.v 5) (.slSS (.v 0) (.v 3) (.bin .sub (.v 4) (.int 1)))) (.cons (.v 4) .nil)))) .skip))) (.ite (.cmp .eq (.slSS (.v 0) (.v 4) (.bin .add (.v 4) (.int 2))) (.str ⟨#[92, 10]⟩))
 (.seq (.setT [7, 8] (.call 11 (.cons (.v 0) (.cons (.v 4) .nil))))
 (.seq (.aug 5 .add (.bin .add (.slSS (.v 0) (.v 3) (.v 4)) (.v 7)))
 (.seq (.set 4 (.v 8))
 (.set 3 (.v 8))))) (.ite (.cmp .eq (.idx (.v 0) (.v 4)) (.str ⟨#[92]⟩))
 (.aug 4 .add (.int 2)) (.wh (.and (.cons (.cmp .lt (.v 4) (.v 2)) (.cons (.cmp .notIn (.idx (.v 0) (.v 4)) (.str ⟨#[123, 125, 92]⟩)) .nil)))
 (.aug 4 .add (.int 1))))))))
 (.raise (.call 2 (.cons (.str ⟨#[109, 105, 115, 115, 105, 110, 103, 32, 99, 108, 111, 115, 101, 45, 98, 114, 97, 99, 101]⟩) .nil)))))))))
noncomputable def cm20 : Cm :=
 (.seq .mkOwn
 (.seq (.set 4 (.str ⟨#[]⟩))
 (.seq (.set 5 (.bi .len (.v 0)))
 (.seq (.wh (.and (.cons (.cmp .lt (.v 1) (.v 5)) (.cons (.cmp .notIn (.idx (.v 0) (.v 1)) (.v 2)) .nil)))
 (.seq (.ite (.cmp .eq (.idx (.v 0) (.v 1)) (.str ⟨#[36]⟩))
 (.setT [6, 1] (.call 17 (.cons (.v 0) (.cons (.v 1) .nil)))) (.ite (.cmp .eq (.idx (.v 0) (.v 1)) (.str ⟨#[91]⟩))
 (.seq (.setT [7, 1] (.call 18 (.cons (.v 0) (.cons (.v 1) .nil))))
 (.set 6 (.tup (.cons (.str ⟨#[99, 109, 100]⟩) (.cons (.v 7) .nil))))) (.ite (.cmp .eq (.idx (.v 0) (.v 1)) (.str ⟨#[92]⟩))
 (.seq (.ite (.and (.cons (.cmp .in_ (.str ⟨#[32]⟩) (.v 2)) (.cons (.cmp .eq (.slSS (.v 0) (.bin .add (.v 1) (.int 1)) (.bin .add (.v 1) (.int 2))) (.str ⟨#[10]⟩)) .nil)))
 .brk .skip)
 (.seq (.setT [8, 1] (.call 11 (.cons (.v 0) (.cons (.v 1) .nil))))
 (.set 6 (.tup (.cons (.str ⟨#[116, 101, 120, 116]⟩) (.cons (.v 8) .nil)))))) (.seq (.set 9 (.v 1))
 (.seq (.wh (.and (.cons (.cmp .lt (.v 1) (.v 5)) (.cons (.cmp .notIn (.idx (.v 0) (.v 1)) (.str ⟨#[36, 91, 92]⟩)) (.cons (.cmp .notIn (.idx (.v 0) (.v 1)) (.v 2)) .nil))))
 (.aug 1 .add (.int 1)))
 (.set 6 (.tup (.cons (.str ⟨#[116, 101, 120, 116]⟩) (.cons (.slSS (.v 0) (.v 9) (.v 1)) .nil)))))))))
 (.ite (.cmp .eq (.idx (.v 6) (.int 0)) (.str ⟨#[116, 101, 120, 116]⟩))
 (.aug 4 .add (.idx (.v 6) (.int 1))) (.seq (.ite (.cmp .ne (.v 4) (.str ⟨#[]⟩))
 (.seq (.push (.tup (.cons (.str ⟨#[116, 101, 120, 116]⟩) (.cons (.v 4) .nil))))
 (.set 4 (.str ⟨#[]⟩))) .skip)
 (.push (.v 6))))))
 (.seq (.ite (.cmp .ne (.v 4) (.str ⟨#[]⟩))
 (.push (.tup (.cons (.str ⟨#[116, 101, 120, 116]⟩) (.cons (.v 4) .nil)))) .skip)
 (.ret (.tup (.cons .ownTup (.cons (.v 1) .nil)))))))))
noncomputable def cm21 : Cm :=
 (.seq (.ite (.v 0)
 (.ret (.tup (.cons (.str ⟨#[32]⟩) (.cons (.str ⟨#[9]⟩) (.cons (.str ⟨#[11]⟩) (.cons (.str ⟨#[12]⟩) (.cons (.str ⟨#[13]⟩) (.cons (.str ⟨#[10]⟩) (.cons (.str ⟨#[59]⟩) (.cons (.str ⟨#[93]⟩) .nil)))))))))) .skip)
 (.ret (.tup (.cons (.str ⟨#[32]⟩) (.cons (.str ⟨#[9]⟩) (.cons (.str ⟨#[11]⟩) (.cons (.str ⟨#[12]⟩) (.cons (.str ⟨#[13]⟩) (.cons (.str ⟨#[10]⟩) (.cons (.str ⟨#[59]⟩) .nil))))))))))
noncomputable def cm22 : Cm :=
 (.seq (.ite (.cmp .ne (.slSS (.v 0) (.v 1) (.bin .add (.v 1) (.int 3))) (.str ⟨#[123, 42, 125]⟩))
 (.ret (.bool false)) .skip)
 (.seq (.set 2 (.bin .add (.v 1) (.int 3)))
 (.seq (.ite (.cmp .in_ (.slSS (.v 0) (.v 2) (.bin .add (.v 2) (.int 1))) (.tup (.cons (.str ⟨#[]⟩) (.cons (.str ⟨#[10]⟩) (.cons (.str ⟨#[59]⟩) .nil)))))
 (.ret (.bool false)) .skip)
 (.ret (.cmp .eq (.call 13 (.cons (.v 0) (.cons (.v 2) .nil))) (.v 2))))))
noncomputable def cm23 : Cm :=
 (.seq (.set 3 (.call 22 (.cons (.v 0) (.cons (.v 1) .nil))))
 (.seq (.ite (.v 3)
 (.aug 1 .add (.int 3)) .skip)
 (.seq (.set 4 (.slSS (.v 0) (.v 1) (.bin .add (.v 1) (.int 1))))
 (.seq (.ite (.cmp .eq (.v 4) (.str ⟨#[123]⟩))
 (.seq (.setT [5, 6] (.call 19 (.cons (.v 0) (.cons (.v 1) .nil))))
 (.seq (.ite (.cmp .eq (.v 5) (.str ⟨#[]⟩))
 (.ret (.tup (.cons (.tup (.cons (.v 3) (.cons (.tup .nil) .nil))) (.cons (.v 6) .nil)))) .skip)
 (.ret (.tup (.cons (.tup (.cons (.v 3) (.cons (.tup (.cons (.tup (.cons (.str ⟨#[116, 101, 120, 116]⟩) (.cons (.v 5) .nil))) .nil)) .nil))) (.cons (.v 6) .nil)))))) .skip)
 (.seq (.ite (.cmp .eq (.v 4) (.str ⟨#[34]⟩))
 (.seq (.setT [7, 8] (.call 20 (.cons (.v 0) (.cons (.bin .add (.v 1) (.int 1)) (.cons (.tup (.cons (.str ⟨#[34]⟩) .nil)) .nil)))))
 (.seq (.ite (.cmp .ge (.v 8) (.bi .len (.v 0)))
 (.raise (.call 2 (.cons (.str ⟨#[109, 105, 115, 115, 105, 110, 103, 32, 34]⟩) .nil))) .skip)
 (.ret (.tup (.cons (.tup (.cons (.v 3) (.cons (.v 7) .nil))) (.cons (.bin .add (.v 8) (.int 1)) .nil)))))) .skip)
 (.seq (.setT [7, 6] (.call 20 (.cons (.v 0) (.cons (.v 1) (.cons (.call 21 (.cons (.v 2) .nil)) .nil)))))
 (.ret (.tup (.cons (.tup (.cons (.v 3) (.cons (.v 7) .nil))) (.cons (.v 6) .nil))))))))))
noncomputable def cm24 : Cm :=
 (.seq (.set 3 (.call 15 (.cons (.v 0) (.cons (.v 1) .nil))))
 (.seq (.set 4 (.bi .len (.v 0)))
 (.seq (.ite (.or (.cons (.cmp .ge (.v 3) (.v 4)) (.cons (.and (.cons (.v 2) (.cons (.cmp .eq (.idx (.v 0) (.v 3)) (.str ⟨#[93]⟩)) .nil))) .nil)))
 (.ret .none) .skip)
 (.seq .mkOwn
 (.seq (.set 6 (.v 3))
 (.wh (.bool true)
 (.seq (.setT [7, 8] (.call 23 (.cons (.v 0) (.cons (.v 6) (.cons (.v 2) .nil)))))
 (.seq (.push (.v 7))
 (.seq (.set 6 (.call 13 (.cons (.v 0) (.cons (.v 8) .nil))))
 (.seq (.ite (.cmp .ge (.v 6) (.v 4))
 (.ret (.tup (.cons .ownTup (.cons (.v 3) (.cons (.v 8) (.cons (.v 4) .nil)))))) .skip)
 (.seq (.ite (.cmp .in_ (.idx (.v 0) (.v 6)) (.tup (.cons (.str ⟨#[10]⟩) (.cons (.str ⟨#[59]⟩) .nil))))
 (.ret (.tup (.cons .ownTup (.cons (.v 3) (.cons (.v 8) (.cons (.bin .add (.v 6) (.int 1)) .nil)))))) .skip)
 (.seq (.ite (.and (.cons (.v 2) (.cons (.cmp .eq (.idx (.v 0) (.v 6)) (.str ⟨#[93]⟩)) .nil)))
 (.ret (.tup (.cons .ownTup (.cons (.v 3) (.cons (.v 8) (.cons (.v 6) .nil)))))) .skip)
 (.ite (.cmp .eq (.v 6) (.v 8))
 (.seq (.ite (.cmp .eq (.idx (.v 0) (.bin .sub (.v 8) (.int 1))) (.str ⟨#[34]⟩))
 (.raise (.call 2 (.cons (.str ⟨#[101, 120, 116, 114, 97, 32, 99, 104, 97, 114, 97, 99, 116, 101, 114, 115, 32, 97, 102, 116, 101, 114, 32, 99, 108, 111, 115, 101, 45, 113, 117, 111, 116, 101]⟩) .nil))) .skip)
 (.raise (.call 2 (.cons (.str ⟨#[101, 120, 116, 114, 97, 32, 99, 104, 97, 114, 97, 99, 116, 101, 114, 115, 32, 97, 102, 116, 101, 114, 32, 99, 108, 111, 115, 101, 45, 98, 114, 97, 99, 101]⟩) .nil)))) .skip)))))))))))))
noncomputable def cm26 : Cm :=
 (.ret (.call 2 (.cons (.bin .add (.bin .add (.bin .add (.v 2) (.str ⟨#[10, 105, 110, 32, 101, 120, 112, 114, 101, 115, 115, 105, 111, 110, 32, 34]⟩)) (.v 0)) (.str ⟨#[34]⟩)) (.cons (.tup (.cons (.str ⟨#[84, 67, 76]⟩) (.cons (.str ⟨#[80, 65, 82, 83, 69]⟩) (.cons (.str ⟨#[69, 88, 80, 82]⟩) .nil)))) .nil))))
noncomputable def cm27 : Cm :=
 (.seq (.set 2 (.bi .len (.v 0)))
 (.seq (.wh (.cmp .lt (.v 1) (.v 2))
 (.seq (.set 3 (.idx (.v 0) (.v 1)))
 (.ite (.call 4 (.cons (.v 3) .nil))
 (.aug 1 .add (.int 1)) (.ite (.and (.cons (.cmp .eq (.v 3) (.str ⟨#[92]⟩)) (.cons (.cmp .eq (.slSS (.v 0) (.bin .add (.v 1) (.int 1)) (.bin .add (.v 1) (.int 2))) (.str ⟨#[10]⟩)) .nil)))
 (.aug 1 .add (.int 2)) (.ite (.cmp .eq (.v 3) (.str ⟨#[35]⟩))
 (.wh (.and (.cons (.cmp .lt (.v 1) (.v 2)) (.cons (.cmp .ne (.idx (.v 0) (.v 1)) (.str ⟨#[10]⟩)) .nil)))
 (.aug 1 .add (.int 1))) .brk)))))
 (.ret (.v 1))))
noncomputable def cm28 : Cm :=
 (.ret (.and (.cons (.cmp .lt (.v 1) (.bi .len (.v 0))) (.cons (.cmp2 .le .lt (.int 0) (.call 5 (.cons (.idx (.v 0) (.v 1)) .nil)) (.v 2)) .nil))))
noncomputable def cm29 : Cm :=
 (.seq (.wh (.cmp .lt (.v 1) (.bi .len (.v 0)))
 (.ite (.or (.cons (.cmp .eq (.idx (.v 0) (.v 1)) (.str ⟨#[95]⟩)) (.cons (.call 28 (.cons (.v 0) (.cons (.v 1) (.cons (.int 36) .nil)))) .nil)))
 (.aug 1 .add (.int 1)) (.ite (.cmp .eq (.slSS (.v 0) (.v 1) (.bin .add (.v 1) (.int 2))) (.str ⟨#[58, 58]⟩))
 (.aug 1 .add (.int 2)) .brk)))
 (.ret (.v 1)))
noncomputable def cm30 : Cm :=
 (.ret (.cmp .in_ (.v 0) (.tup (.cons (.str ⟨#[101, 113]⟩) (.cons (.str ⟨#[110, 101]⟩) (.cons (.str ⟨#[105, 110]⟩) (.cons (.str ⟨#[110, 105]⟩) (.cons (.str ⟨#[108, 116]⟩) (.cons (.str ⟨#[108, 101]⟩) (.cons (.str ⟨#[103, 116]⟩) (.cons (.str ⟨#[103, 101]⟩) .nil)))))))))))
noncomputable def cm31 : Cm :=
 (.seq (.set 2 (.slSS (.v 0) (.v 1) (.bin .add (.v 1) (.int 1))))
 (.seq (.ite (.cmp .eq (.v 2) (.str ⟨#[46]⟩))
 (.ret (.bool true)) .skip)
 (.seq (.ite (.and (.cons (.cmp .ne (.v 2) (.str ⟨#[101]⟩)) (.cons (.cmp .ne (.v 2) (.str ⟨#[69]⟩)) .nil)))
 (.ret (.bool false)) .skip)
 (.seq (.ite (.cmp .in_ (.slSS (.v 0) (.bin .add (.v 1) (.int 1)) (.bin .add (.v 1) (.int 2))) (.tup (.cons (.str ⟨#[43]⟩) (.cons (.str ⟨#[45]⟩) .nil))))
 (.aug 1 .add (.int 1)) .skip)
 (.ret (.call 28 (.cons (.v 0) (.cons (.bin .add (.v 1) (.int 1)) (.cons (.int 10) .nil)))))))))
noncomputable def cm32 : Cm :=
 (.seq (.setT [2, 3] (.tup (.cons (.int 10) (.cons (.v 1) .nil))))
 (.seq (.ite (.cmp .eq (.idx (.v 0) (.v 1)) (.str ⟨#[48]⟩))
 (.seq (.set 4 (.call 7 (.cons (.slSS (.v 0) (.bin .add (.v 1) (.int 1)) (.bin .add (.v 1) (.int 2))) .nil)))
 (.ite (.and (.cons (.cmp .gt (.v 4) (.int 0)) (.cons (.call 28 (.cons (.v 0) (.cons (.bin .add (.v 1) (.int 2)) (.cons (.v 4) .nil)))) .nil)))
 (.setT [2, 3] (.tup (.cons (.v 4) (.cons (.bin .add (.v 1) (.int 2)) .nil)))) .skip)) .skip)
 (.seq (.set 5 (.v 3))
 (.seq (.wh (.call 28 (.cons (.v 0) (.cons (.v 5) (.cons (.v 2) .nil))))
 (.aug 5 .add (.int 1)))
 (.seq (.ite (.and (.cons (.cmp .eq (.v 3) (.v 1)) (.cons (.call 31 (.cons (.v 0) (.cons (.v 5) .nil))) .nil)))
 (.raise (.call 26 (.cons (.v 0) (.cons (.v 1) (.cons (.str ⟨#[102, 108, 111, 97, 116, 105, 110, 103, 45, 112, 111, 105, 110, 116, 32, 110, 117, 109, 98, 101, 114, 32, 108, 101, 102, 116, 32, 111, 117, 116]⟩) .nil))))) .skip)
 (.seq (.set 6 (.call 29 (.cons (.v 0) (.cons (.v 5) .nil))))
 (.seq (.ite (.and (.cons (.cmp .gt (.v 6) (.v 5)) (.cons (.cmp .ne (.idx (.v 0) (.v 5)) (.str ⟨#[58]⟩)) (.cons (.not (.call 30 (.cons (.slSS (.v 0) (.v 5) (.v 6)) .nil))) .nil))))
 (.ret (.tup (.cons (.str ⟨#[119, 111, 114, 100]⟩) (.cons (.slSS (.v 0) (.v 1) (.v 6)) (.cons (.v 1) (.cons (.v 6) .nil)))))) .skip)
 (.ret (.tup (.cons (.str ⟨#[110, 117, 109, 98, 101, 114]⟩) (.cons (.call 6 (.cons (.slSS (.v 0) (.v 3) (.v 5)) (.cons (.v 2) .nil))) (.cons (.v 1) (.cons (.v 5) .nil)))))))))))))
noncomputable def cm33 : Cm :=
 (.seq (.set 2 (.slSS (.v 0) (.v 1) (.bin .add (.v 1) (.int 2))))
 (.seq (.ite (.cmp .in_ (.v 2) (.tup (.cons (.str ⟨#[42, 42]⟩) (.cons (.str ⟨#[60, 60]⟩) (.cons (.str ⟨#[62, 62]⟩) (.cons (.str ⟨#[60, 61]⟩) (.cons (.str ⟨#[62, 61]⟩) (.cons (.str ⟨#[61, 61]⟩) (.cons (.str ⟨#[33, 61]⟩) (.cons (.str ⟨#[38, 38]⟩) (.cons (.str ⟨#[124, 124]⟩) .nil)))))))))))
 (.ret (.v 2)) .skip)
 (.seq (.ite (.cmp .in_ (.idx (.v 0) (.v 1)) (.tup (.cons (.str ⟨#[43]⟩) (.cons (.str ⟨#[45]⟩) (.cons (.str ⟨#[42]⟩) (.cons (.str ⟨#[47]⟩) (.cons (.str ⟨#[37]⟩) (.cons (.str ⟨#[126]⟩) (.cons (.str ⟨#[33]⟩) (.cons (.str ⟨#[60]⟩) (.cons (.str ⟨#[62]⟩) (.cons (.str ⟨#[38]⟩) (.cons (.str ⟨#[94]⟩) (.cons (.str ⟨#[124]⟩) (.cons (.str ⟨#[63]⟩) (.cons (.str ⟨#[58]⟩) .nil))))))))))))))))
 (.ret (.idx (.v 0) (.v 1))) .skip)
 (.ret (.str ⟨#[]⟩)))))
noncomputable def cm34 : Cm :=
 (.seq (.set 2 (.call 33 (.cons (.v 0) (.cons (.v 1) .nil))))
 (.seq (.ite (.cmp .ne (.v 2) (.str ⟨#[]⟩))
 (.ret (.tup (.cons (.str ⟨#[111, 112]⟩) (.cons (.v 2) (.cons (.v 1) (.cons (.bin .add (.v 1) (.bi .len (.v 2))) .nil)))))) .skip)
 (.seq (.ite (.call 28 (.cons (.v 0) (.cons (.v 1) (.cons (.int 10) .nil))))
 (.ret (.call 32 (.cons (.v 0) (.cons (.v 1) .nil)))) .skip)
 (.seq (.set 3 (.idx (.v 0) (.v 1)))
 (.seq (.ite (.or (.cons (.cmp .eq (.v 3) (.str ⟨#[95]⟩)) (.cons (.call 28 (.cons (.v 0) (.cons (.v 1) (.cons (.int 36) .nil)))) .nil)))
 (.seq (.set 4 (.call 29 (.cons (.v 0) (.cons (.v 1) .nil))))
 (.seq (.set 5 (.slSS (.v 0) (.v 1) (.v 4)))
 (.ret (.tup (.cons (.ite (.call 30 (.cons (.v 5) .nil)) (.str ⟨#[111, 112]⟩) (.str ⟨#[119, 111, 114, 100]⟩)) (.cons (.v 5) (.cons (.v 1) (.cons (.v 4) .nil)))))))) .skip)
 (.seq (.ite (.and (.cons (.cmp .eq (.v 3) (.str ⟨#[46]⟩)) (.cons (.call 28 (.cons (.v 0) (.cons (.bin .add (.v 1) (.int 1)) (.cons (.int 10) .nil)))) .nil)))
 (.raise (.call 26 (.cons (.v 0) (.cons (.v 1) (.cons (.str ⟨#[102, 108, 111, 97, 116, 105, 110, 103, 45, 112, 111, 105, 110, 116, 32, 110, 117, 109, 98, 101, 114, 32, 108, 101, 102, 116, 32, 111, 117, 116]⟩) .nil))))) .skip)
 (.seq (.ite (.cmp .eq (.v 3) (.str ⟨#[61]⟩))
 (.raise (.call 26 (.cons (.v 0) (.cons (.v 1) (.cons (.str ⟨#[105, 110, 99, 111, 109, 112, 108, 101, 116, 101, 32, 111, 112, 101, 114, 97, 116, 111, 114, 32, 34, 61, 34]⟩) .nil))))) .skip)
 (.raise (.call 26 (.cons (.v 0) (.cons (.v 1) (.cons (.bin .add (.bin .add (.str ⟨#[105, 110, 118, 97, 108, 105, 100, 32, 99, 104, 97, 114, 97, 99, 116, 101, 114, 32, 34]⟩) (.v 3)) (.str ⟨#[34]⟩)) .nil))))))))))))
noncomputable def cm35 : Cm :=
 (.seq (.set 2 (.idx (.v 0) (.v 1)))
 (.seq (.ite (.cmp .eq (.v 2) (.str ⟨#[36]⟩))
 (.seq (.setT [3, 4] (.call 17 (.cons (.v 0) (.cons (.v 1) .nil))))
 (.seq (.ite (.cmp .eq (.idx (.v 3) (.int 0)) (.str ⟨#[116, 101, 120, 116]⟩))
 (.raise (.call 26 (.cons (.v 0) (.cons (.v 1) (.cons (.str ⟨#[105, 110, 118, 97, 108, 105, 100, 32, 99, 104, 97, 114, 97, 99, 116, 101, 114, 32, 34, 36, 34]⟩) .nil))))) .skip)
 (.ret (.tup (.cons (.str ⟨#[112, 97, 114, 116, 115]⟩) (.cons (.tup (.cons (.v 3) .nil)) (.cons (.v 1) (.cons (.v 4) .nil)))))))) .skip)
 (.seq (.ite (.cmp .eq (.v 2) (.str ⟨#[91]⟩))
 (.seq (.setT [5, 4] (.call 18 (.cons (.v 0) (.cons (.v 1) .nil))))
 (.ret (.tup (.cons (.str ⟨#[112, 97, 114, 116, 115]⟩) (.cons (.tup (.cons (.tup (.cons (.str ⟨#[99, 109, 100]⟩) (.cons (.v 5) .nil))) .nil)) (.cons (.v 1) (.cons (.v 4) .nil))))))) .skip)
 (.seq (.ite (.cmp .eq (.v 2) (.str ⟨#[34]⟩))
 (.seq (.setT [6, 4] (.call 20 (.cons (.v 0) (.cons (.bin .add (.v 1) (.int 1)) (.cons (.tup (.cons (.str ⟨#[34]⟩) .nil)) .nil)))))
 (.seq (.ite (.cmp .ge (.v 4) (.bi .len (.v 0)))
 (.raise (.call 2 (.cons (.str ⟨#[109, 105, 115, 115, 105, 110, 103, 32, 34]⟩) .nil))) .skip)
 (.ret (.tup (.cons (.str ⟨#[112, 97, 114, 116, 115]⟩) (.cons (.v 6) (.cons (.v 1) (.cons (.bin .add (.v 4) (.int 1)) .nil)))))))) .skip)
 (.seq (.ite (.cmp .eq (.v 2) (.str ⟨#[123]⟩))
 (.seq (.setT [7, 4] (.call 19 (.cons (.v 0) (.cons (.v 1) .nil))))
 (.ret (.tup (.cons (.str ⟨#[116, 101, 120, 116]⟩) (.cons (.v 7) (.cons (.v 1) (.cons (.v 4) .nil))))))) .skip)
 (.seq (.ite (.cmp .in_ (.v 2) (.tup (.cons (.str ⟨#[40]⟩) (.cons (.str ⟨#[41]⟩) (.cons (.str ⟨#[44]⟩) .nil)))))
 (.ret (.tup (.cons (.v 2) (.cons (.v 2) (.cons (.v 1) (.cons (.bin .add (.v 1) (.int 1)) .nil)))))) .skip)
 (.ret (.call 34 (.cons (.v 0) (.cons (.v 1) .nil))))))))))
noncomputable def cm36 : Cm :=
 (.seq .mkOwn
 (.seq (.set 2 (.call 27 (.cons (.v 0) (.cons (.int 0) .nil))))
 (.seq (.wh (.cmp .lt (.v 2) (.bi .len (.v 0)))
 (.seq (.set 3 (.call 35 (.cons (.v 0) (.cons (.v 2) .nil))))
 (.seq (.push (.v 3))
 (.set 2 (.call 27 (.cons (.v 0) (.cons (.idx (.v 3) (.int 3)) .nil)))))))
 (.seq (.push (.tup (.cons (.str ⟨#[101, 110, 100]⟩) (.cons (.str ⟨#[]⟩) (.cons (.v 2) (.cons (.v 2) .nil))))))
 .retOwn))))
noncomputable def cm38 : Cm :=
 (.ret (.idx (.tup (.cons (.str ⟨#[32]⟩) (.cons (.str ⟨#[10]⟩) (.cons (.str ⟨#[92, 10]⟩) (.cons (.str ⟨#[9]⟩) (.cons (.str ⟨#[35]⟩) (.cons (.str ⟨#[40]⟩) (.cons (.str ⟨#[41]⟩) (.cons (.str ⟨#[44]⟩) (.cons (.str ⟨#[123]⟩) (.cons (.str ⟨#[125]⟩) (.cons (.str ⟨#[34]⟩) (.cons (.str ⟨#[36]⟩) (.cons (.str ⟨#[36, 123]⟩) (.cons (.str ⟨#[36, 97]⟩) (.cons (.str ⟨#[97]⟩) (.cons (.str ⟨#[101]⟩) (.cons (.str ⟨#[113]⟩) (.cons (.str ⟨#[120]⟩) (.cons (.str ⟨#[48]⟩) (.cons (.str ⟨#[49]⟩) (.cons (.str ⟨#[55]⟩) (.cons (.str ⟨#[57]⟩) (.cons (.str ⟨#[95]⟩) (.cons (.str ⟨#[58]⟩) (.cons (.str ⟨#[58, 58]⟩) (.cons (.str ⟨#[46]⟩) (.cons (.str ⟨#[43]⟩) (.cons (.str ⟨#[45]⟩) (.cons (.str ⟨#[42]⟩) (.cons (.str ⟨#[38]⟩) (.cons (.str ⟨#[124]⟩) (.cons (.str ⟨#[60]⟩) (.cons (.str ⟨#[61]⟩) (.cons (.str ⟨#[33]⟩) (.cons (.str ⟨#[126]⟩) (.cons (.str ⟨#[63]⟩) (.cons (.str ⟨#[94]⟩) (.cons (.str ⟨#[37]⟩) (.cons (.str ⟨#[47]⟩) (.cons (.str ⟨#[62]⟩) (.cons (.str ⟨#[91, 102, 32, 49, 93]⟩) (.cons (.str ⟨#[91, 93]⟩) (.cons (.str ⟨#[92, 125]⟩) (.cons (.str ⟨#[92, 34]⟩) (.cons (.str ⟨#[92, 36]⟩) (.cons (.str ⟨#[64]⟩) (.cons (.str ⟨#[101, 113]⟩) (.cons (.str ⟨#[110, 105]⟩) (.cons (.str ⟨#[48, 120]⟩) (.cons (.str ⟨#[49, 101, 53]⟩) (.cons (.str ⟨#[36, 97, 40]⟩) (.cons (.str ⟨#[48, 98]⟩) (.cons (.str ⟨#[79]⟩) (.cons (.str ⟨#[69]⟩) (.cons (.str ⟨#[108, 101]⟩) .nil)))))))))))))))))))))))))))))))))))))))))))))))))))))))) (.bin .fmod (.v 0) (.int 55))))
noncomputable def cm39 : Cm :=
 (.ret (.lst (.cons (.int 20) (.cons (.int 46) (.cons (.int 50) (.cons (.int 17) (.cons (.int 11) (.cons (.int 6) (.cons (.int 1) (.cons (.int 48) (.cons (.int 19) (.cons (.int 0) (.cons (.int 31) (.cons (.int 32) (.cons (.int 8) (.cons (.int 14) (.cons (.int 2) (.cons (.int 0) (.cons (.int 9) (.cons (.int 40) .nil))))))))))))))))))))
noncomputable def cm40 : Cm :=
 (.ret (.raised (.cons (.int 1) (.cons (.bin .add (.bin .add (.bin .add (.v 1) (.str ⟨#[10, 105, 110, 32, 101, 120, 112, 114, 101, 115, 115, 105, 111, 110, 32, 34]⟩)) (.v 0)) (.str ⟨#[34]⟩)) (.cons (.tup (.cons (.str ⟨#[84, 67, 76]⟩) (.cons (.str ⟨#[80, 65, 82, 83, 69]⟩) (.cons (.str ⟨#[69, 88, 80, 82]⟩) .nil)))) .nil)))))
noncomputable def cm41 : Cm :=
 (.ret (.and (.cons (.cmp .ne (.v 0) (.str ⟨#[]⟩)) (.cons (.cmp .in_ (.v 0) (.ite (.cmp .lt (.v 1) (.int 11)) (.slNS (.str ⟨#[48, 49, 50, 51, 52, 53, 54, 55, 56, 57, 97, 98, 99, 100, 101, 102, 65, 66, 67, 68, 69, 70]⟩) (.v 1)) (.str ⟨#[48, 49, 50, 51, 52, 53, 54, 55, 56, 57, 97, 98, 99, 100, 101, 102, 65, 66, 67, 68, 69, 70]⟩))) .nil))))
noncomputable def cm42 : Cm :=
 (.seq (.wh (.cmp .lt (.v 1) (.bi .len (.v 0)))
 (.ite (.or (.cons (.me .isalnum (.idx (.v 0) (.v 1)) .nil) (.cons (.cmp .eq (.idx (.v 0) (.v 1)) (.str ⟨#[95]⟩)) .nil)))
 (.set 1 (.bin .add (.v 1) (.int 1))) (.ite (.cmp .eq (.slSS (.v 0) (.v 1) (.bin .add (.v 1) (.int 2))) (.str ⟨#[58, 58]⟩))
 (.seq (.set 1 (.bin .add (.v 1) (.int 2)))
 (.wh (.and (.cons (.v 2) (.cons (.cmp .eq (.slSS (.v 0) (.v 1) (.bin .add (.v 1) (.int 1))) (.str ⟨#[58]⟩)) .nil)))
 (.set 1 (.bin .add (.v 1) (.int 1))))) (.ret (.v 1)))))
 (.ret (.v 1)))
noncomputable def cm43 : Cm :=
 (.seq (.wh (.cmp .lt (.v 1) (.bi .len (.v 0)))
 (.ite (.cmp .in_ (.idx (.v 0) (.v 1)) (.str ⟨#[32, 9, 10]⟩))
 (.set 1 (.bin .add (.v 1) (.int 1))) (.ite (.cmp .eq (.slSS (.v 0) (.v 1) (.bin .add (.v 1) (.int 2))) (.str ⟨#[92, 10]⟩))
 (.set 1 (.bin .add (.v 1) (.int 2))) (.ite (.cmp .eq (.idx (.v 0) (.v 1)) (.str ⟨#[35]⟩))
 (.set 1 (.me .index (.bin .add (.v 0) (.str ⟨#[10]⟩)) (.cons (.str ⟨#[10]⟩) (.cons (.v 1) .nil)))) (.ret (.v 1))))))
 (.ret (.v 1)))
noncomputable def cm44 : Cm :=
 (.seq (.wh (.cmp .in_ (.slSS (.v 0) (.v 1) (.bin .add (.v 1) (.int 1))) (.tup (.cons (.str ⟨#[32]⟩) (.cons (.str ⟨#[9]⟩) .nil))))
 (.set 1 (.bin .add (.v 1) (.int 1))))
 (.ret (.v 1)))
noncomputable def cm45 : Cm :=
 (.seq (.ite (.cmp .eq (.slSS (.v 0) (.bin .add (.v 1) (.int 1)) (.bin .add (.v 1) (.int 2))) (.str ⟨#[123]⟩))
 (.seq (.ite (.cmp .notIn (.str ⟨#[125]⟩) (.slSN (.v 0) (.v 1)))
 (.raise (.raised (.cons (.int 1) (.cons (.str ⟨#[109, 105, 115, 115, 105, 110, 103, 32, 99, 108, 111, 115, 101, 45, 98, 114, 97, 99, 101, 32, 102, 111, 114, 32, 118, 97, 114, 105, 97, 98, 108, 101, 32, 110, 97, 109, 101]⟩) .nil)))) .skip)
 (.seq (.set 2 (.me .index (.v 0) (.cons (.str ⟨#[125]⟩) (.cons (.v 1) .nil))))
 (.ret (.tup (.cons (.tup (.cons (.str ⟨#[118, 97, 114]⟩) (.cons (.slSS (.v 0) (.bin .add (.v 1) (.int 2)) (.v 2)) (.cons .none .nil)))) (.cons (.bin .add (.v 2) (.int 1)) .nil)))))) .skip)
 (.seq (.set 2 (.call 42 (.cons (.v 0) (.cons (.bin .add (.v 1) (.int 1)) (.cons (.bool true) .nil)))))
 (.seq (.ite (.cmp .eq (.slSS (.v 0) (.v 2) (.bin .add (.v 2) (.int 1))) (.str ⟨#[40]⟩))
 (.seq (.setT [3, 4] (.call 46 (.cons (.v 0) (.cons (.bin .add (.v 2) (.int 1)) (.cons (.str ⟨#[41]⟩) .nil)))))
 (.seq (.ite (.cmp .eq (.v 4) (.bi .len (.v 0)))
 (.raise (.raised (.cons (.int 1) (.cons (.str ⟨#[109, 105, 115, 115, 105, 110, 103, 32, 41]⟩) .nil)))) .skip)
 (.ret (.tup (.cons (.tup (.cons (.str ⟨#[118, 97, 114]⟩) (.cons (.slSS (.v 0) (.bin .add (.v 1) (.int 1)) (.v 2)) (.cons (.v 3) .nil)))) (.cons (.bin .add (.v 4) (.int 1)) .nil)))))) .skip)
 (.seq (.ite (.cmp .eq (.v 2) (.bin .add (.v 1) (.int 1)))
 (.ret (.tup (.cons (.tup (.cons (.str ⟨#[116, 101, 120, 116]⟩) (.cons (.str ⟨#[36]⟩) .nil))) (.cons (.v 2) .nil)))) .skip)
 (.ret (.tup (.cons (.tup (.cons (.str ⟨#[118, 97, 114]⟩) (.cons (.slSS (.v 0) (.bin .add (.v 1) (.int 1)) (.v 2)) (.cons .none .nil)))) (.cons (.v 2) .nil))))))))
noncomputable def cm46 : Cm :=
 (.seq .mkOwn
 (.seq (.wh (.and (.cons (.cmp .lt (.v 1) (.bi .len (.v 0))) (.cons (.cmp .ne (.idx (.v 0) (.v 1)) (.v 2)) .nil)))
 (.seq (.ite (.cmp .eq (.idx (.v 0) (.v 1)) (.str ⟨#[36]⟩))
 (.setT [4, 1] (.call 45 (.cons (.v 0) (.cons (.v 1) .nil)))) (.ite (.cmp .eq (.idx (.v 0) (.v 1)) (.str ⟨#[91]⟩))
 (.seq (.set 5 (.me .index (.v 0) (.cons (.str ⟨#[93]⟩) (.cons (.v 1) .nil))))
 (.setT [4, 1] (.tup (.cons (.tup (.cons (.str ⟨#[99, 109, 100]⟩) (.cons (.slSS (.v 0) (.bin .add (.v 1) (.int 1)) (.v 5)) .nil))) (.cons (.bin .add (.v 5) (.int 1)) .nil))))) (.ite (.cmp .eq (.slSS (.v 0) (.v 1) (.bin .add (.v 1) (.int 2))) (.str ⟨#[92, 10]⟩))
 (.setT [4, 1] (.tup (.cons (.tup (.cons (.str ⟨#[116, 101, 120, 116]⟩) (.cons (.str ⟨#[32]⟩) .nil))) (.cons (.call 44 (.cons (.v 0) (.cons (.bin .add (.v 1) (.int 2)) .nil))) .nil)))) (.ite (.cmp .eq (.idx (.v 0) (.v 1)) (.str ⟨#[92]⟩))
 (.setT [4, 1] (.tup (.cons (.tup (.cons (.str ⟨#[116, 101, 120, 116]⟩) (.cons (.idx (.v 0) (.bin .add (.v 1) (.int 1))) .nil))) (.cons (.bin .add (.v 1) (.int 2)) .nil)))) (.setT [4, 1] (.tup (.cons (.tup (.cons (.str ⟨#[116, 101, 120, 116]⟩) (.cons (.idx (.v 0) (.v 1)) .nil))) (.cons (.bin .add (.v 1) (.int 1)) .nil))))))))
 (.ite (.and (.cons (.cmp .eq (.idx (.v 4) (.int 0)) (.str ⟨#[116, 101, 120, 116]⟩)) (.cons .ownSome (.cons (.cmp .eq (.idx .ownLast (.int 0)) (.str ⟨#[116, 101, 120, 116]⟩)) .nil))))
 (.setLast (.tup (.cons (.str ⟨#[116, 101, 120, 116]⟩) (.cons (.bin .add (.idx .ownLast (.int 1)) (.idx (.v 4) (.int 1))) .nil)))) (.push (.v 4)))))
 (.ret (.tup (.cons .ownTup (.cons (.v 1) .nil))))))
noncomputable def cm47 : Cm :=
 (.seq (.setT [2, 3] (.tup (.cons (.str ⟨#[]⟩) (.cons (.int 0) .nil))))
 (.seq (.wh (.cmp .lt (.v 1) (.bi .len (.v 0)))
 (.seq (.ite (.cmp .eq (.slSS (.v 0) (.v 1) (.bin .add (.v 1) (.int 2))) (.str ⟨#[92, 10]⟩))
 (.seq (.setT [2, 1] (.tup (.cons (.bin .add (.v 2) (.str ⟨#[32]⟩)) (.cons (.call 44 (.cons (.v 0) (.cons (.bin .add (.v 1) (.int 2)) .nil))) .nil))))
 .cont) .skip)
 (.seq (.set 3 (.bin .add (.v 3) (.dget ⟨#[123]⟩ (.int 1) ⟨#[125]⟩ (.neg (.int 1)) (.idx (.v 0) (.v 1)) (.int 0))))
 (.seq (.ite (.cmp .eq (.v 3) (.int 0))
 (.ret (.tup (.cons (.slSN (.v 2) (.int 1)) (.cons (.bin .add (.v 1) (.int 1)) .nil)))) .skip)
 (.seq (.set 4 (.ite (.cmp .eq (.idx (.v 0) (.v 1)) (.str ⟨#[92]⟩)) (.int 2) (.int 1)))
 (.setT [2, 1] (.tup (.cons (.bin .add (.v 2) (.slSS (.v 0) (.v 1) (.bin .add (.v 1) (.v 4)))) (.cons (.bin .add (.v 1) (.v 4)) .nil)))))))))
 (.raise (.raised (.cons (.int 1) (.cons (.str ⟨#[109, 105, 115, 115, 105, 110, 103, 32, 99, 108, 111, 115, 101, 45, 98, 114, 97, 99, 101]⟩) .nil))))))
noncomputable def cm48 : Cm :=
 (.seq (.setT [2, 3] (.tup (.cons (.int 10) (.cons (.int 0) .nil))))
 (.seq (.set 4 (.ite (.and (.cons (.cmp .eq (.idx (.v 0) (.v 1)) (.str ⟨#[48]⟩)) (.cons (.cmp .ne (.slSS (.v 0) (.bin .add (.v 1) (.int 1)) (.bin .add (.v 1) (.int 2))) (.str ⟨#[]⟩)) .nil))) (.me .find (.str ⟨#[120, 111, 98, 100]⟩) (.cons (.me .lower (.slSS (.v 0) (.bin .add (.v 1) (.int 1)) (.bin .add (.v 1) (.int 2))) .nil) .nil)) (.neg (.int 1))))
 (.seq (.ite (.and (.cons (.cmp .ge (.v 4) (.int 0)) (.cons (.call 41 (.cons (.slSS (.v 0) (.bin .add (.v 1) (.int 2)) (.bin .add (.v 1) (.int 3))) (.cons (.idx (.tup (.cons (.int 16) (.cons (.int 8) (.cons (.int 2) (.cons (.int 10) .nil))))) (.v 4)) .nil))) .nil)))
 (.setT [2, 3] (.tup (.cons (.idx (.tup (.cons (.int 16) (.cons (.int 8) (.cons (.int 2) (.cons (.int 10) .nil))))) (.v 4)) (.cons (.int 2) .nil)))) .skip)
 (.seq (.setT [5, 6] (.tup (.cons (.bin .add (.v 1) (.v 3)) (.cons (.int 0) .nil))))
 (.seq (.set 7 (.v 5))
 (.seq (.wh (.call 41 (.cons (.slSS (.v 0) (.v 7) (.bin .add (.v 7) (.int 1))) (.cons (.v 2) .nil)))
 (.seq (.set 6 (.bin .add (.bin .mul (.v 2) (.v 6)) (.me .index (.str ⟨#[48, 49, 50, 51, 52, 53, 54, 55, 56, 57, 97, 98, 99, 100, 101, 102]⟩) (.cons (.me .lower (.idx (.v 0) (.v 7)) .nil) .nil))))
 (.set 7 (.bin .add (.v 7) (.int 1)))))
 (.seq (.set 8 (.slSS (.v 0) (.v 7) (.bin .add (.v 7) (.int 3))))
 (.seq (.set 9 (.and (.cons (.cmp .in_ (.slNS (.v 8) (.int 1)) (.tup (.cons (.str ⟨#[101]⟩) (.cons (.str ⟨#[69]⟩) .nil)))) (.cons (.or (.cons (.me .isdigit (.slSS (.v 8) (.int 1) (.int 2)) .nil) (.cons (.and (.cons (.cmp .in_ (.slSS (.v 8) (.int 1) (.int 2)) (.tup (.cons (.str ⟨#[43]⟩) (.cons (.str ⟨#[45]⟩) .nil)))) (.cons (.me .isdigit (.slSN (.v 8) (.int 2)) .nil) .nil))) .nil))) .nil))))
 (.seq (.ite (.and (.cons (.cmp .eq (.v 3) (.int 0)) (.cons (.or (.cons (.cmp .eq (.slNS (.v 8) (.int 1)) (.str ⟨#[46]⟩)) (.cons (.v 9) .nil))) .nil)))
 (.raise (.call 40 (.cons (.v 0) (.cons (.str ⟨#[102, 108, 111, 97, 116, 105, 110, 103, 45, 112, 111, 105, 110, 116, 32, 110, 117, 109, 98, 101, 114, 32, 108, 101, 102, 116, 32, 111, 117, 116]⟩) .nil)))) .skip)
 (.seq (.set 10 (.call 42 (.cons (.v 0) (.cons (.v 1) (.cons (.bool false) .nil)))))
 (.seq (.set 11 (.slSS (.v 0) (.v 7) (.v 10)))
 (.seq (.ite (.or (.cons (.cmp .eq (.v 11) (.str ⟨#[]⟩)) (.cons (.cmp .eq (.idx (.v 11) (.int 0)) (.str ⟨#[58]⟩)) (.cons (.call 49 (.cons (.v 11) .nil)) .nil))))
 (.ret (.tup (.cons (.str ⟨#[110, 117, 109, 98, 101, 114]⟩) (.cons (.v 6) (.cons (.v 1) (.cons (.v 7) .nil)))))) .skip)
 (.ret (.tup (.cons (.str ⟨#[119, 111, 114, 100]⟩) (.cons (.slSS (.v 0) (.v 1) (.v 10)) (.cons (.v 1) (.cons (.v 10) .nil))))))))))))))))))
noncomputable def cm49 : Cm :=
 (.ret (.cmp .in_ (.v 0) (.tup (.cons (.str ⟨#[101, 113]⟩) (.cons (.str ⟨#[110, 101]⟩) (.cons (.str ⟨#[105, 110]⟩) (.cons (.str ⟨#[110, 105]⟩) (.cons (.str ⟨#[108, 116]⟩) (.cons (.str ⟨#[108, 101]⟩) (.cons (.str ⟨#[103, 116]⟩) (.cons (.str ⟨#[103, 101]⟩) .nil)))))))))))
noncomputable def cm50 : Cm :=
 (.seq (.set 2 (.idx (.v 0) (.v 1)))
 (.seq (.ite (.cmp .eq (.v 2) (.str ⟨#[36]⟩))
 (.seq (.setT [3, 4] (.call 45 (.cons (.v 0) (.cons (.v 1) .nil))))
 (.seq (.ite (.cmp .eq (.v 3) (.tup (.cons (.str ⟨#[116, 101, 120, 116]⟩) (.cons (.str ⟨#[36]⟩) .nil))))
 (.raise (.call 40 (.cons (.v 0) (.cons (.str ⟨#[105, 110, 118, 97, 108, 105, 100, 32, 99, 104, 97, 114, 97, 99, 116, 101, 114, 32, 34, 36, 34]⟩) .nil)))) .skip)
 (.ret (.tup (.cons (.str ⟨#[112, 97, 114, 116, 115]⟩) (.cons (.tup (.cons (.v 3) .nil)) (.cons (.v 1) (.cons (.v 4) .nil)))))))) .skip)
 (.seq (.ite (.cmp .eq (.v 2) (.str ⟨#[91]⟩))
 (.seq (.set 4 (.me .index (.v 0) (.cons (.str ⟨#[93]⟩) (.cons (.v 1) .nil))))
 (.ret (.tup (.cons (.str ⟨#[112, 97, 114, 116, 115]⟩) (.cons (.tup (.cons (.tup (.cons (.str ⟨#[99, 109, 100]⟩) (.cons (.slSS (.v 0) (.bin .add (.v 1) (.int 1)) (.v 4)) .nil))) .nil)) (.cons (.v 1) (.cons (.bin .add (.v 4) (.int 1)) .nil))))))) .skip)
 (.seq (.ite (.cmp .eq (.v 2) (.str ⟨#[34]⟩))
 (.seq (.setT [5, 4] (.call 46 (.cons (.v 0) (.cons (.bin .add (.v 1) (.int 1)) (.cons (.str ⟨#[34]⟩) .nil)))))
 (.seq (.ite (.cmp .eq (.v 4) (.bi .len (.v 0)))
 (.raise (.raised (.cons (.int 1) (.cons (.str ⟨#[109, 105, 115, 115, 105, 110, 103, 32, 34]⟩) .nil)))) .skip)
 (.ret (.tup (.cons (.str ⟨#[112, 97, 114, 116, 115]⟩) (.cons (.v 5) (.cons (.v 1) (.cons (.bin .add (.v 4) (.int 1)) .nil)))))))) .skip)
 (.seq (.ite (.cmp .eq (.v 2) (.str ⟨#[123]⟩))
 (.seq (.setT [6, 4] (.call 47 (.cons (.v 0) (.cons (.v 1) .nil))))
 (.ret (.tup (.cons (.str ⟨#[116, 101, 120, 116]⟩) (.cons (.v 6) (.cons (.v 1) (.cons (.v 4) .nil))))))) .skip)
 (.seq (.ite (.cmp .in_ (.v 2) (.str ⟨#[40, 41, 44]⟩))
 (.ret (.tup (.cons (.v 2) (.cons (.v 2) (.cons (.v 1) (.cons (.bin .add (.v 1) (.int 1)) .nil)))))) .skip)
 (.seq (.ite (.me .isdigit (.v 2) .nil)
 (.ret (.call 48 (.cons (.v 0) (.cons (.v 1) .nil)))) .skip)
 (.seq (.ite (.or (.cons (.me .isalpha (.v 2) .nil) (.cons (.cmp .eq (.v 2) (.str ⟨#[95]⟩)) .nil)))
 (.seq (.set 4 (.call 42 (.cons (.v 0) (.cons (.v 1) (.cons (.bool false) .nil)))))
 (.seq (.set 7 (.slSS (.v 0) (.v 1) (.v 4)))
 (.ret (.tup (.cons (.ite (.call 49 (.cons (.v 7) .nil)) (.str ⟨#[111, 112]⟩) (.str ⟨#[119, 111, 114, 100]⟩)) (.cons (.v 7) (.cons (.v 1) (.cons (.v 4) .nil)))))))) .skip)
 (.seq (.forE 8 (.tup (.cons (.str ⟨#[42, 42]⟩) (.cons (.str ⟨#[60, 60]⟩) (.cons (.str ⟨#[62, 62]⟩) (.cons (.str ⟨#[60, 61]⟩) (.cons (.str ⟨#[62, 61]⟩) (.cons (.str ⟨#[61, 61]⟩) (.cons (.str ⟨#[33, 61]⟩) (.cons (.str ⟨#[38, 38]⟩) (.cons (.str ⟨#[124, 124]⟩) (.cons (.str ⟨#[43]⟩) (.cons (.str ⟨#[45]⟩) (.cons (.str ⟨#[42]⟩) (.cons (.str ⟨#[47]⟩) (.cons (.str ⟨#[37]⟩) (.cons (.str ⟨#[126]⟩) (.cons (.str ⟨#[33]⟩) (.cons (.str ⟨#[60]⟩) (.cons (.str ⟨#[62]⟩) (.cons (.str ⟨#[38]⟩) (.cons (.str ⟨#[94]⟩) (.cons (.str ⟨#[124]⟩) (.cons (.str ⟨#[63]⟩) (.cons (.str ⟨#[58]⟩) .nil))))))))))))))))))))))))
 (.ite (.cmp .eq (.slSS (.v 0) (.v 1) (.bin .add (.v 1) (.bi .len (.v 8)))) (.v 8))
 (.ret (.tup (.cons (.str ⟨#[111, 112]⟩) (.cons (.v 8) (.cons (.v 1) (.cons (.bin .add (.v 1) (.bi .len (.v 8))) .nil)))))) .skip))
 (.seq (.ite (.and (.cons (.cmp .eq (.v 2) (.str ⟨#[46]⟩)) (.cons (.me .isdigit (.slSS (.v 0) (.bin .add (.v 1) (.int 1)) (.bin .add (.v 1) (.int 2))) .nil) .nil)))
 (.raise (.call 40 (.cons (.v 0) (.cons (.str ⟨#[102, 108, 111, 97, 116, 105, 110, 103, 45, 112, 111, 105, 110, 116, 32, 110, 117, 109, 98, 101, 114, 32, 108, 101, 102, 116, 32, 111, 117, 116]⟩) .nil)))) .skip)
 (.raise (.call 40 (.cons (.v 0) (.cons (.ite (.cmp .eq (.v 2) (.str ⟨#[61]⟩)) (.str ⟨#[105, 110, 99, 111, 109, 112, 108, 101, 116, 101, 32, 111, 112, 101, 114, 97, 116, 111, 114, 32, 34, 61, 34]⟩) (.bin .add (.bin .add (.str ⟨#[105, 110, 118, 97, 108, 105, 100, 32, 99, 104, 97, 114, 97, 99, 116, 101, 114, 32, 34]⟩) (.v 2)) (.str ⟨#[34]⟩))) .nil))))))))))))))
noncomputable def cm51 : Cm :=
 (.seq (.mkOwnA 2 (.call 43 (.cons (.v 0) (.cons (.int 0) .nil))))
 (.seq (.wh (.cmp .lt (.v 2) (.bi .len (.v 0)))
 (.seq (.set 3 (.call 50 (.cons (.v 0) (.cons (.v 2) .nil))))
 (.seq (.push (.v 3))
 (.set 2 (.call 43 (.cons (.v 0) (.cons (.idx (.v 3) (.int 3)) .nil)))))))
 (.retPush (.tup (.cons (.str ⟨#[101, 110, 100]⟩) (.cons (.str ⟨#[]⟩) (.cons (.v 2) (.cons (.v 2) .nil))))))))
noncomputable def cm53 : Cm :=
 (.seq (.mkOwnB 3 (.str ⟨#[]⟩))
 (.seq (.forR 5 (.bin .sub (.bi .len (.v 1)) (.int 1))
 (.seq (.setT [6, 7, 8, 9] (.idx (.v 1) (.v 5)))
 (.seq (.set 3 (.bin .add (.v 3) (.idx (.tup (.cons (.str ⟨#[32]⟩) (.cons (.str ⟨#[10]⟩) (.cons (.str ⟨#[92, 10]⟩) (.cons (.str ⟨#[35, 32, 41, 32, 34, 10]⟩) (.cons (.str ⟨#[9, 32]⟩) (.cons (.str ⟨#[35, 10, 35, 10]⟩) (.cons (.str ⟨#[92, 10, 9]⟩) (.cons (.str ⟨#[32, 92, 10]⟩) .nil))))))))) (.bin .fmod (.bin .fdiv (.v 2) (.bin .pow (.int 8) (.bin .fmod (.v 5) (.int 12)))) (.int 8)))))
 (.seq (.push (.tup (.cons (.v 6) (.cons (.v 7) (.cons (.bi .len (.v 3)) (.cons (.bin .sub (.bin .add (.bi .len (.v 3)) (.v 9)) (.v 8)) .nil))))))
 (.set 3 (.bin .add (.v 3) (.slSS (.v 0) (.v 8) (.v 9))))))))
 (.retTPush (.v 3) (.tup (.cons (.str ⟨#[101, 110, 100]⟩) (.cons (.str ⟨#[]⟩) (.cons (.bi .len (.v 3)) (.cons (.bi .len (.v 3)) .nil))))))))
noncomputable def cmTab : List (Nat × Cm) := [(4, cm4), (5, cm5), (6, cm6), (7, cm7), (11, cm11), (12, cm12), (13, cm13), (14, cm14), (15, cm15), (16, cm16), (17, cm17), (18, cm18), (19, cm19), (20, cm20), (21, cm21), (22, cm22), (23, cm23), (24, cm24), (26, cm26), (27, cm27), (28, cm28), (29, cm29), (30, cm30), (31, cm31), (32, cm32), (33, cm33), (34, cm34), (35, cm35), (36, cm36), (38, cm38), (39, cm39), (40, cm40), (41, cm41), (42, cm42), (43, cm43), (44, cm44), (45, cm45), (46, cm46), (47, cm47), (48, cm48), (49, cm49), (50, cm50), (51, cm51), (53, cm53)]
noncomputable def cmAt (i : Nat) : Option Cm := cmTab.lookup i
theorem cp4 : compAt 4 = some cm4 := by kernel_rfl!
theorem cp5 : compAt 5 = some cm5 := by kernel_rfl!
theorem cp6 : compAt 6 = some cm6 := by kernel_rfl!
theorem cp7 : compAt 7 = some cm7 := by kernel_rfl!
theorem cp11 : compAt 11 = some cm11 := by kernel_rfl!
theorem cp12 : compAt 12 = some cm12 := by kernel_rfl!
theorem cp13 : compAt 13 = some cm13 := by kernel_rfl!
theorem cp14 : compAt 14 = some cm14 := by kernel_rfl!
theorem cp15 : compAt 15 = some cm15 := by kernel_rfl!
theorem cp16 : compAt 16 = some cm16 := by kernel_rfl!
theorem cp17 : compAt 17 = some cm17 := by kernel_rfl!
theorem cp18 : compAt 18 = some cm18 := by kernel_rfl!
theorem cp19 : compAt 19 = some cm19 := by kernel_rfl!
theorem cp20 : compAt 20 = some cm20 := by kernel_rfl!
theorem cp21 : compAt 21 = some cm21 := by kernel_rfl!
theorem cp22 : compAt 22 = some cm22 := by kernel_rfl!
theorem cp23 : compAt 23 = some cm23 := by kernel_rfl!
theorem cp24 : compAt 24 = some cm24 := by kernel_rfl!
theorem cp26 : compAt 26 = some cm26 := by kernel_rfl!
theorem cp27 : compAt 27 = some cm27 := by kernel_rfl!
theorem cp28 : compAt 28 = some cm28 := by kernel_rfl!
theorem cp29 : compAt 29 = some cm29 := by kernel_rfl!
theorem cp30 : compAt 30 = some cm30 := by kernel_rfl!
theorem cp31 : compAt 31 = some cm31 := by kernel_rfl!
theorem cp32 : compAt 32 = some cm32 := by kernel_rfl!
theorem cp33 : compAt 33 = some cm33 := by kernel_rfl!
theorem cp34 : compAt 34 = some cm34 := by kernel_rfl!
theorem cp35 : compAt 35 = some cm35 := by kernel_rfl!
theorem cp36 : compAt 36 = some cm36 := by kernel_rfl!
theorem cp38 : compAt 38 = some cm38 := by kernel_rfl!
theorem cp39 : compAt 39 = some cm39 := by kernel_rfl!
theorem cp40 : compAt 40 = some cm40 := by kernel_rfl!
theorem cp41 : compAt 41 = some cm41 := by kernel_rfl!
theorem cp42 : compAt 42 = some cm42 := by kernel_rfl!
theorem cp43 : compAt 43 = some cm43 := by kernel_rfl!
theorem cp44 : compAt 44 = some cm44 := by kernel_rfl!
theorem cp45 : compAt 45 = some cm45 := by kernel_rfl!
theorem cp46 : compAt 46 = some cm46 := by kernel_rfl!
theorem cp47 : compAt 47 = some cm47 := by kernel_rfl!
theorem cp48 : compAt 48 = some cm48 := by kernel_rfl!
theorem cp49 : compAt 49 = some cm49 := by kernel_rfl!
theorem cp50 : compAt 50 = some cm50 := by kernel_rfl!
theorem cp51 : compAt 51 = some cm51 := by kernel_rfl!
theorem cp53 : compAt 53 = some cm53 := by kernel_rfl!
theorem cp_all : ∀ x ∈ cmTab, compAt x.1 = some x.2 := List.forall_mem_cons.mpr ⟨cp4, List.forall_mem_cons.mpr ⟨cp5, List.forall_mem_cons.mpr ⟨cp6, List.forall_mem_cons.mpr ⟨cp7, List.forall_mem_cons.mpr ⟨cp11, List.forall_mem_cons.mpr ⟨cp12, List.forall_mem_cons.mpr ⟨cp13, List.forall_mem_cons.mpr ⟨cp14, List.forall_mem_cons.mpr ⟨cp15, List.forall_mem_cons.mpr ⟨cp16, List.forall_mem_cons.mpr ⟨cp17, List.forall_mem_cons.mpr ⟨cp18, List.forall_mem_cons.mpr ⟨cp19, List.forall_mem_cons.mpr ⟨cp20, List.forall_mem_cons.mpr ⟨cp21, List.forall_mem_cons.mpr ⟨cp22, List.forall_mem_cons.mpr ⟨cp23, List.forall_mem_cons.mpr ⟨cp24, List.forall_mem_cons.mpr ⟨cp26, List.forall_mem_cons.mpr ⟨cp27, List.forall_mem_cons.mpr ⟨cp28, List.forall_mem_cons.mpr ⟨cp29, List.forall_mem_cons.mpr ⟨cp30, List.forall_mem_cons.mpr ⟨cp31, List.forall_mem_cons.mpr ⟨cp32, List.forall_mem_cons.mpr ⟨cp33, List.forall_mem_cons.mpr ⟨cp34, List.forall_mem_cons.mpr ⟨cp35, List.forall_mem_cons.mpr ⟨cp36, List.forall_mem_cons.mpr ⟨cp38, List.forall_mem_cons.mpr ⟨cp39, List.forall_mem_cons.mpr ⟨cp40, List.forall_mem_cons.mpr ⟨cp41, List.forall_mem_cons.mpr ⟨cp42, List.forall_mem_cons.mpr ⟨cp43, List.forall_mem_cons.mpr ⟨cp44, List.forall_mem_cons.mpr ⟨cp45, List.forall_mem_cons.mpr ⟨cp46, List.forall_mem_cons.mpr ⟨cp47, List.forall_mem_cons.mpr ⟨cp48, List.forall_mem_cons.mpr ⟨cp49, List.forall_mem_cons.mpr ⟨cp50, List.forall_mem_cons.mpr ⟨cp51, List.forall_mem_cons.mpr ⟨cp53, fun _ h => nomatch h⟩⟩⟩⟩⟩⟩⟩⟩⟩⟩⟩⟩⟩⟩⟩⟩⟩⟩⟩⟩⟩⟩⟩⟩⟩⟩⟩⟩⟩⟩⟩⟩⟩⟩⟩⟩⟩⟩⟩⟩⟩⟩⟩⟩
noncomputable def cm54 : Cm :=
 (.seq (.forE 3 (.tup (.cons (.int 6) (.cons (.int 12) (.cons (.int 18) .nil))))
 (.seq (.set 4 (.joinL (.lsl (.v 0) (.v 3))))
 (.seq (.heardS 5 51 (.v 4))
 (.seq (.heardIf 36 (.v 4) 5
 (.ret (.bool false)) .skip)
 (.seq (.ite (.or (.cons (.cmp .eq (.bi .len (.idx (.v 5) (.int 0))) (.int 3)) (.cons (.cmp .eq (.bi .len (.v 5)) (.int 1)) .nil)))
 .cont .skip)
 (.seq (.set 6 (.bin .fmod (.v 1) (.bin .sub (.bi .len (.v 5)) (.int 1))))
 (.seq (.set 7 (.idx (.idx (.v 5) (.v 6)) (.int 3)))
 (.seq (.ite (.cmp .ne (.call 36 (.cons (.slNS (.v 4) (.v 7)) .nil)) (.ladd (.lsl (.v 5) (.bin .add (.v 6) (.int 1))) (.lst (.cons (.tup (.cons (.str ⟨#[101, 110, 100]⟩) (.cons (.str ⟨#[]⟩) (.cons (.v 7) (.cons (.v 7) .nil))))) .nil))))
 (.ret (.bool false)) .skip)
 (.seq (.setT [8, 9] (.call 53 (.cons (.v 4) (.cons (.v 5) (.cons (.v 2) .nil)))))
 (.ite (.cmp .ne (.call 36 (.cons (.v 8) .nil)) (.v 9))
 (.ret (.bool false)) .skip))))))))))
 (.ret (.bool true)))
theorem cp54 : cSs (cfAt 54) 100 ((bodyAt 54).drop 4) = some cm54 := by kernel_rfl!
end Mine
namespace Mine
open PySem PySem.W PyProof.Rows PySem.Calls
noncomputable abbrev PwB (i : Nat) (pm cd doc : Value) : FuncData := docDef (nameAt i) (argsAt i) (bodyAt i) (scopeAt i) pm cd doc
theorem len0 {vs : List Value} (h : vs.length = 0) : vs = [] := List.length_eq_zero_iff.mp h
theorem len1 {vs : List Value} (h : vs.length = 1) : ∃ a, vs = [a] := List.length_eq_one_iff.mp h
theorem lenS {n : Nat} {vs : List Value} (h : vs.length = n + 1) : ∃ a r, vs = a :: r /\ r.length = n := by
 cases vs with
 | nil => cases h
 | cons a r => exact ⟨a, r, rfl, Nat.succ.inj h⟩
theorem len2 {vs : List Value} (h : vs.length = 2) : ∃ a b, vs = [a, b] := by
 obtain ⟨a, r, e1, h1⟩ := lenS h
 obtain ⟨b, t, e2, h2⟩ := lenS h1
 exact ⟨a, b, by rw [e1, e2, List.eq_nil_of_length_eq_zero h2]⟩
theorem len3 {vs : List Value} (h : vs.length = 3) : ∃ a b c, vs = [a, b, c] := by
 obtain ⟨a, r, e1, h1⟩ := lenS h
 obtain ⟨b, c, e2⟩ := len2 h1
 exact ⟨a, b, c, by rw [e1, e2]⟩
noncomputable def parN (i : Nat) : Nat := (parsAt i).length
noncomputable def noDflt : List Nat := idxs.filter (· != 24)
noncomputable def BdOk (i : Nat) : Prop := ∀ (vs : List Value), vs.length = parN i -> ∀ pm cd doc, bindArgs (PwB i pm cd doc) ⟨vs, []⟩ = pure ((parsAt i).zip vs)
theorem bd4 : BdOk 4 := fun vs h pm cd doc => by
 have e : parN 4 = 1 := by kernel_rfl
 rw [e] at h
 obtain ⟨a, rfl⟩ := len1 h
 rfl
theorem bd5 : BdOk 5 := fun vs h pm cd doc => by
 have e : parN 5 = 1 := by kernel_rfl
 rw [e] at h
 obtain ⟨a, rfl⟩ := len1 h
 rfl
theorem bd6 : BdOk 6 := fun vs h pm cd doc => by
 have e : parN 6 = 2 := by kernel_rfl
 rw [e] at h
 obtain ⟨a, b, rfl⟩ := len2 h
 rfl
theorem bd7 : BdOk 7 := fun vs h pm cd doc => by
 have e : parN 7 = 1 := by kernel_rfl
 rw [e] at h
 obtain ⟨a, rfl⟩ := len1 h
 rfl
theorem bd11 : BdOk 11 := fun vs h pm cd doc => by
 have e : parN 11 = 2 := by kernel_rfl
 rw [e] at h
 obtain ⟨a, b, rfl⟩ := len2 h
 rfl
theorem bd12 : BdOk 12 := fun vs h pm cd doc => by
 have e : parN 12 = 1 := by kernel_rfl
 rw [e] at h
 obtain ⟨a, rfl⟩ := len1 h
 rfl
theorem bd13 : BdOk 13 := fun vs h pm cd doc => by
 have e : parN 13 = 2 := by kernel_rfl
 rw [e] at h
 obtain ⟨a, b, rfl⟩ := len2 h
 rfl
theorem bd14 : BdOk 14 := fun vs h pm cd doc => by
 have e : parN 14 = 2 := by kernel_rfl
 rw [e] at h
 obtain ⟨a, b, rfl⟩ := len2 h
 rfl
theorem bd15 : BdOk 15 := fun vs h pm cd doc => by
 have e : parN 15 = 2 := by kernel_rfl
 rw [e] at h
 obtain ⟨a, b, rfl⟩ := len2 h
 rfl
theorem bd16 : BdOk 16 := fun vs h pm cd doc => by
 have e : parN 16 = 2 := by kernel_rfl
 rw [e] at h
 obtain ⟨a, b, rfl⟩ := len2 h
 rfl
theorem bd17 : BdOk 17 := fun vs h pm cd doc => by
 have e : parN 17 = 2 := by kernel_rfl
 rw [e] at h
 obtain ⟨a, b, rfl⟩ := len2 h
 rfl
theorem bd18 : BdOk 18 := fun vs h pm cd doc => by
 have e : parN 18 = 2 := by kernel_rfl
 rw [e] at h
 obtain ⟨a, b, rfl⟩ := len2 h
 rfl
theorem bd19 : BdOk 19 := fun vs h pm cd doc => by
 have e : parN 19 = 2 := by kernel_rfl
 rw [e] at h
 obtain ⟨a, b, rfl⟩ := len2 h
 rfl
theorem bd20 : BdOk 20 := fun vs h pm cd doc => by
 have e : parN 20 = 3 := by kernel_rfl
 rw [e] at h
 obtain ⟨a, b, c, rfl⟩ := len3 h
 rfl
theorem bd21 : BdOk 21 := fun vs h pm cd doc => by
 have e : parN 21 = 1 := by kernel_rfl
 rw [e] at h
 obtain ⟨a, rfl⟩ := len1 h
 rfl
theorem bd22 : BdOk 22 := fun vs h pm cd doc => by
 have e : parN 22 = 2 := by kernel_rfl
 rw [e] at h
 obtain ⟨a, b, rfl⟩ := len2 h
 rfl
theorem bd23 : BdOk 23 := fun vs h pm cd doc => by
 have e : parN 23 = 3 := by kernel_rfl
 rw [e] at h
 obtain ⟨a, b, c, rfl⟩ := len3 h
 rfl
theorem bd26 : BdOk 26 := fun vs h pm cd doc => by
 have e : parN 26 = 3 := by kernel_rfl
 rw [e] at h
 obtain ⟨a, b, c, rfl⟩ := len3 h
 rfl
theorem bd27 : BdOk 27 := fun vs h pm cd doc => by
 have e : parN 27 = 2 := by kernel_rfl
 rw [e] at h
 obtain ⟨a, b, rfl⟩ := len2 h
 rfl
theorem bd28 : BdOk 28 := fun vs h pm cd doc => by
 have e : parN 28 = 3 := by kernel_rfl
 rw [e] at h
 obtain ⟨a, b, c, rfl⟩ := len3 h
 rfl
theorem bd29 : BdOk 29 := fun vs h pm cd doc => by
 have e : parN 29 = 2 := by kernel_rfl
 rw [e] at h
 obtain ⟨a, b, rfl⟩ := len2 h
 rfl
theorem bd30 : BdOk 30 := fun vs h pm cd doc => by
 have e : parN 30 = 1 := by kernel_rfl
 rw [e] at h
 obtain ⟨a, rfl⟩ := len1 h
 rfl
theorem bd31 : BdOk 31 := fun vs h pm cd doc => by
 have e : parN 31 = 2 := by kernel_rfl
 rw [e] at h
 obtain ⟨a, b, rfl⟩ := len2 h
 rfl
theorem bd32 : BdOk 32 := fun vs h pm cd doc => by
 have e : parN 32 = 2 := by kernel_rfl
 rw [e] at h
 obtain ⟨a, b, rfl⟩ := len2 h
 rfl
theorem bd33 : BdOk 33 := fun vs h pm cd doc => by
 have e : parN 33 = 2 := by kernel_rfl
 rw [e] at h
 obtain ⟨a, b, rfl⟩ := len2 h
 rfl
theorem bd34 : BdOk 34 := fun vs h pm cd doc => by
 have e : parN 34 = 2 := by kernel_rfl
 rw [e] at h
 obtain ⟨a, b, rfl⟩ := len2 h
 rfl
theorem bd35 : BdOk 35 := fun vs h pm cd doc => by
 have e : parN 35 = 2 := by kernel_rfl
 rw [e] at h
 obtain ⟨a, b, rfl⟩ := len2 h
 rfl
theorem bd36 : BdOk 36 := fun vs h pm cd doc => by
 have e : parN 36 = 1 := by kernel_rfl
 rw [e] at h
 obtain ⟨a, rfl⟩ := len1 h
 rfl
theorem bd38 : BdOk 38 := fun vs h pm cd doc => by
 have e : parN 38 = 1 := by kernel_rfl
 rw [e] at h
 obtain ⟨a, rfl⟩ := len1 h
 rfl
theorem bd39 : BdOk 39 := fun vs h pm cd doc => by
 have e : parN 39 = 0 := by kernel_rfl
 rw [e] at h
 obtain rfl := len0 h
 rfl
theorem bd40 : BdOk 40 := fun vs h pm cd doc => by
 have e : parN 40 = 2 := by kernel_rfl
 rw [e] at h
 obtain ⟨a, b, rfl⟩ := len2 h
 rfl
theorem bd41 : BdOk 41 := fun vs h pm cd doc => by
 have e : parN 41 = 2 := by kernel_rfl
 rw [e] at h
 obtain ⟨a, b, rfl⟩ := len2 h
 rfl
theorem bd42 : BdOk 42 := fun vs h pm cd doc => by
 have e : parN 42 = 3 := by kernel_rfl
 rw [e] at h
 obtain ⟨a, b, c, rfl⟩ := len3 h
 rfl
theorem bd43 : BdOk 43 := fun vs h pm cd doc => by
 have e : parN 43 = 2 := by kernel_rfl
 rw [e] at h
 obtain ⟨a, b, rfl⟩ := len2 h
 rfl
theorem bd44 : BdOk 44 := fun vs h pm cd doc => by
 have e : parN 44 = 2 := by kernel_rfl
 rw [e] at h
 obtain ⟨a, b, rfl⟩ := len2 h
 rfl
theorem bd45 : BdOk 45 := fun vs h pm cd doc => by
 have e : parN 45 = 2 := by kernel_rfl
 rw [e] at h
 obtain ⟨a, b, rfl⟩ := len2 h
 rfl
theorem bd46 : BdOk 46 := fun vs h pm cd doc => by
 have e : parN 46 = 3 := by kernel_rfl
 rw [e] at h
 obtain ⟨a, b, c, rfl⟩ := len3 h
 rfl
theorem bd47 : BdOk 47 := fun vs h pm cd doc => by
 have e : parN 47 = 2 := by kernel_rfl
 rw [e] at h
 obtain ⟨a, b, rfl⟩ := len2 h
 rfl
theorem bd48 : BdOk 48 := fun vs h pm cd doc => by
 have e : parN 48 = 2 := by kernel_rfl
 rw [e] at h
 obtain ⟨a, b, rfl⟩ := len2 h
 rfl
theorem bd49 : BdOk 49 := fun vs h pm cd doc => by
 have e : parN 49 = 1 := by kernel_rfl
 rw [e] at h
 obtain ⟨a, rfl⟩ := len1 h
 rfl
theorem bd50 : BdOk 50 := fun vs h pm cd doc => by
 have e : parN 50 = 2 := by kernel_rfl
 rw [e] at h
 obtain ⟨a, b, rfl⟩ := len2 h
 rfl
theorem bd51 : BdOk 51 := fun vs h pm cd doc => by
 have e : parN 51 = 1 := by kernel_rfl
 rw [e] at h
 obtain ⟨a, rfl⟩ := len1 h
 rfl
theorem bd53 : BdOk 53 := fun vs h pm cd doc => by
 have e : parN 53 = 3 := by kernel_rfl
 rw [e] at h
 obtain ⟨a, b, c, rfl⟩ := len3 h
 rfl
theorem bdAll : ∀ i ∈ noDflt, BdOk i := by
 intro i hi
 have e : noDflt = [4, 5, 6, 7, 11, 12, 13, 14, 15, 16, 17, 18, 19, 20, 21, 22, 23, 26, 27, 28, 29, 30, 31, 32, 33, 34, 35, 36, 38, 39, 40, 41, 42, 43, 44, 45, 46, 47, 48, 49, 50, 51, 53] := by decide +kernel
 rw [e] at hi
 simp only [List.mem_cons, List.not_mem_nil, or_false] at hi
 rcases hi with rfl | rfl | rfl | rfl | rfl | rfl | rfl | rfl | rfl | rfl | rfl | rfl | rfl | rfl | rfl | rfl | rfl | rfl | rfl | rfl | rfl | rfl | rfl | rfl | rfl | rfl | rfl | rfl | rfl | rfl | rfl | rfl | rfl | rfl | rfl | rfl | rfl | rfl | rfl | rfl | rfl | rfl | rfl
 ·exact bd4
 ·exact bd5
 ·exact bd6
 ·exact bd7
 ·exact bd11
 ·exact bd12
 ·exact bd13
 ·exact bd14
 ·exact bd15
 ·exact bd16
 ·exact bd17
 ·exact bd18
 ·exact bd19
 ·exact bd20
 ·exact bd21
 ·exact bd22
 ·exact bd23
 ·exact bd26
 ·exact bd27
 ·exact bd28
 ·exact bd29
 ·exact bd30
 ·exact bd31
 ·exact bd32
 ·exact bd33
 ·exact bd34
 ·exact bd35
 ·exact bd36
 ·exact bd38
 ·exact bd39
 ·exact bd40
 ·exact bd41
 ·exact bd42
 ·exact bd43
 ·exact bd44
 ·exact bd45
 ·exact bd46
 ·exact bd47
 ·exact bd48
 ·exact bd49
 ·exact bd50
 ·exact bd51
 ·exact bd53
noncomputable def noneS : Str := ⟨#[78, 79, 78, 69]⟩
noncomputable def full (i : Nat) (args : List PyData) : Option (List PyData) :=
 if args.length = parN i then some args
 else if i = 24 /\ args.length = 2 then some (args ++ [.bool false])
 else if i = 2 /\ args.length = 1 then some (args ++ [.tuple [.str noneS]])
 else none
noncomputable def cm2 : Cm := .ret (.raised (.cons (.int 1) (.cons (.v 0) (.cons (.v 1) .nil))))
noncomputable def cmOf (i : Nat) : Option Cm := if i = 2 then some cm2 else cmAt i
noncomputable def startSg (i : Nat) (args : List PyData) : Sg := ⟨args.map some ++ List.replicate ((localsAt i).length - args.length) none, none⟩
noncomputable def cfn (K : Nat) : Nat -> Cfn
 | 0, _, _ => .stuck
 | d + 1, i, args => match cmOf i, full i args with
  | some c, some as => (exc (cfn K d) K c (startSg i as)).bind outV
  | _, _ => .stuck
theorem cfn_of {K d i : Nat} {args as : List PyData} {c : Cm} (hc : cmOf i = some c) (hf : full i args = some as) : cfn K (d + 1) i args = (exc (cfn K d) K c (startSg i as)).bind outV := by
 show (match cmOf i, full i args with
  | some c, some as => (exc (cfn K d) K c (startSg i as)).bind outV
  | _, _ => .stuck) = _
 rw [hc, hf]
structure FnAt (W : Wd) (i : Nat) (fa : Addr) : Prop where
 fn : ∃ o fd, W.hR.get? fa = some o /\ o.data = .func fd /\ fd.body = .stmts (bodyAt i) /\ fd.scope = scopeAt i /\ (∀ L, callEnv fd L fa = envOf (nameAt i) (scopeAt i) L fa fd.code) /\ W.hR.CodeRec fd.code fd.qualname /\
  ∀ (s : Shared) (vs : List Value) (as : List Addr) (args args' : List PyData), W.hR.StaysIn s.heap -> ReadsAll s.heap vs args as -> full i args = some args' -> ∃ vs', BindsTo s fd ⟨vs, []⟩ ((parsAt i).zip vs') /\ ReadsAll s.heap vs' args' as /\ args'.length = parN i
noncomputable def runs : List Nat := 2 :: idxs
noncomputable def isFn (i : Nat) : Bool := !([3, 8, 25, 37].contains i)
structure All (W : Wd) (P : Params) : Prop extends Facts W P where
 raised : W.mg "Raised" = some (.ref 33)
 fns : ∀ i ∈ runs, ∃ fa, W.mg (nameAt i) = some (.ref fa) /\ FnAt W i fa
 fns0 : ∀ i, 2 <= i -> i < 55 -> isFn i = true -> ∃ a o fd, W.mg (nameAt i) = some (.ref a) /\ W.hR.get? a = some o /\ o.data = .func fd
noncomputable def sideG (i : Nat) : Bool := (globsAt i).all fun x => match fnNames.findIdx? (· == x) with | some j => decide (2 <= j) && isFn j | none => true
theorem sides : ∀ i ∈ runs, sideOk i = true := by decide +kernel
theorem sidesG : ∀ i ∈ runs, sideG i = true := by decide +kernel
theorem fnLen : fnNames.length = 55 := by kernel_rfl
theorem cp2 : compAt 2 = some cm2 := by kernel_rfl
theorem lookup_mem {c : Cm} : ∀ {l : List (Nat × Cm)} {i : Nat}, l.lookup i = some c -> (i, c) ∈ l
 | (j, d) :: l, i, h => by
  rw [List.lookup_cons] at h
  cases q : i == j
  ·rw [q] at h; exact .tail _ (lookup_mem h)
  ·rw [q] at h; cases h; rw [beq_iff_eq.mp q]; exact .head _
theorem cmAt_ok {i : Nat} {c : Cm} (h : cmAt i = some c) : compAt i = some c := cp_all _ (lookup_mem h)
theorem cmOf_ok {i : Nat} {c : Cm} (h : cmOf i = some c) : compAt i = some c := by
 unfold cmOf at h
 split at h
 ·rename_i q; subst q; cases h; exact cp2
 ·exact cmAt_ok h
theorem tab_in : ∀ x ∈ cmTab.map (·.1), x ∈ runs := by decide +kernel
theorem cmAt_in {i : Nat} {c : Cm} (h : cmAt i = some c) : i ∈ runs := tab_in _ (List.mem_map.mpr ⟨_, lookup_mem h, rfl⟩)
theorem cmOf_in {i : Nat} {c : Cm} (h : cmOf i = some c) : i ∈ runs := by
 unfold cmOf at h
 split at h
 ·rename_i q; subst q; decide +kernel
 ·exact cmAt_in h
theorem own_par : ∀ i ∈ runs, (ownAt i).all (fun x => !(parsAt i).contains x) = true := by decide +kernel
theorem zip_lookup : ∀ {ps : List Str} {vs : List Value} {i : Nat} {p : Str} {v : Value}, ps.Nodup -> ps[i]? = some p -> vs[i]? = some v -> (ps.zip vs).reverse.lookup p = some v := by
 intro ps vs i p v hn hp hv
 have hm : (p, v) ∈ (ps.zip vs).reverse := by
  rw [List.mem_reverse]
  refine List.mem_of_getElem? (i := i) ?_
  rw [List.getElem?_zip_eq_some]
  exact ⟨hp, hv⟩
 have key : ∀ (l : List (Str × Value)), (p, v) ∈ l -> (∀ w, (p, w) ∈ l -> w = v) -> l.lookup p = some v := by
  intro l
  induction l with
  | nil => intro h; cases h
  | cons x l ih =>
   intro h hu
   obtain ⟨y, z⟩ := x
   rw [List.lookup_cons]
   by_cases e : p = y
   ·subst e
    simp [hu z (.head _)]
   ·have : (p == y) = false := by simpa using e
    rw [this]
    refine ih ?_ fun w hw => hu w (.tail _ hw)
    rcases List.mem_cons.mp h with h | h
    ·cases h; exact absurd rfl e
    ·exact h
 refine key _ hm fun w hw => ?_
 rw [List.mem_reverse] at hw
 obtain ⟨j, hj⟩ := List.getElem?_of_mem hw
 rw [List.getElem?_zip_eq_some] at hj
 have hi : i < ps.length := (List.getElem?_eq_some_iff.mp hp).1
 have : i = j := (List.getElem?_inj hi hn).mp (hp.trans hj.1.symm)
 subst this
 have := hv.symm.trans hj.2
 cases this
 rfl
section
variable {W : Wd} {P : Params}
theorem name_of {i : Nat} {x : Str} (h : fnNames.findIdx? (· == x) = some i) : nameAt i = x /\ i < 55 := by
 obtain ⟨h1, h2, _⟩ := List.findIdx?_eq_some_iff_getElem.mp h
 rw [fnLen] at h1
 refine ⟨?_, h1⟩
 unfold nameAt
 rw [List.getD_eq_getElem?_getD, List.getElem?_eq_getElem (by rw [fnLen]; exact h1)]
 simpa using h2
end
structure Side (i : Nat) : Prop where
 kind : (scopeAt i).kind = .function
 co : (scopeAt i).isCoroutine = false
 gen : (scopeAt i).isGenerator = false
 cell : ∀ x ∈ (scopeAt i).names, x.2 ≠ .cell
 nodup : (localsAt i).Nodup
 pars : (localsAt i).take (parN i) = parsAt i
 loc : ∀ n ∈ localsAt i, (scopeAt i).names.lookup n = some .local /\ (n == ("__debug__" : Str)) = false
 glb : ∀ n ∈ globsAt i, (scopeAt i).names.lookup n = some .globalImplicit /\ (n == ("__debug__" : Str)) = false
 own : ∀ n, ownAt i = some n -> n ∈ localsAt i
theorem side_of {i : Nat} (h : sideOk i = true) : Side i := by
 unfold sideOk at h
 simp only [Bool.and_eq_true, List.all_eq_true, beq_iff_eq, Bool.not_eq_true', decide_eq_true_eq, Bool.or_eq_true] at h
 obtain ⟨⟨⟨⟨⟨⟨⟨⟨h1, h2⟩, h3⟩, h4⟩, h5⟩, h6⟩, h7⟩, h8⟩, h9⟩ := h
 refine ⟨h1, h2, h3, fun x hx q => ?_, h5, h6, fun n hn => h7 n hn, fun n hn => h8 n hn, fun n hn => ?_⟩
 ·rcases h4 x hx with g | g <;> rw [g] at q <;> cases q
 ·rw [hn] at h9
  simpa using h9
section
variable {W : Wd} {P : Params}
theorem callee_ok (a : All W P) {i : Nat} (hi : i ∈ runs) : ∀ x ∈ globsAt i, ∀ j, fnNames.findIdx? (· == x) = some j -> ∃ a o fd, W.mg x = some (.ref a) /\ W.hR.get? a = some o /\ o.data = .func fd := by
 intro x hx j hj
 have hs := sidesG i hi
 unfold sideG at hs
 rw [List.all_eq_true] at hs
 have h2 := hs x hx
 rw [hj] at h2
 rw [Bool.and_eq_true, decide_eq_true_eq] at h2
 obtain ⟨hn, hlt⟩ := name_of hj
 have := a.fns0 j h2.1 hlt h2.2
 rwa [hn] at this
theorem cfn_takes (K d i : Nat) (args : List PyData) : (∃ c as, cmOf i = some c /\ full i args = some as /\ cfn K (d + 1) i args = (exc (cfn K d) K c (startSg i as)).bind outV) \/ cfn K (d + 1) i args = .stuck := by
 cases hc : cmOf i with
 | none =>
  refine .inr ?_
  show (match cmOf i, full i args with
   | some c, some as => (exc (cfn K d) K c (startSg i as)).bind outV
   | _, _ => .stuck) = _
  rw [hc]
 | some c =>
  cases hf : full i args with
  | none =>
   refine .inr ?_
   show (match cmOf i, full i args with
    | some c, some as => (exc (cfn K d) K c (startSg i as)).bind outV
    | _, _ => .stuck) = _
   rw [hc, hf]
  | some as => exact .inl ⟨c, as, rfl, rfl, cfn_of hc hf⟩
theorem start_ok {f : Fm} {i : Nat} (hi : i ∈ runs) (hcfg : f.cfg = cfAt i) {vs : List Value} {args : List PyData} {h h₁ : Heap} (hh : f.h₀ = h) (hL : h.get? f.L = none) (F : Fr h f.L h₁ (fun x => ((parsAt i).zip vs).reverse.lookup x)) (hlen : args.length = parN i) (ra : ReadsAll h vs args f.AA) : St f none (startSg i args) h₁ := by
 have S := side_of (sides i hi)
 refine ⟨_, by rw [hh]; exact F, fun j x hx => ?_, rfl⟩
 have hj : args[j]? = some x := by
  have hx' : (args.map some ++ List.replicate ((localsAt i).length - args.length) none)[j]? = some (some x) := hx
  rw [List.getElem?_append] at hx'
  by_cases q : j < (args.map some).length
  ·rw [if_pos q, List.getElem?_map] at hx'
   obtain ⟨y, h1, h2⟩ := mpd hx'
   cases h2; exact h1
  ·rw [if_neg q, List.getElem?_replicate] at hx'
   obtain ⟨-, hx'⟩ := ifd hx'
   cases hx'
 obtain ⟨v, bs, r1, r2, r3⟩ := reads_get ra hj
 have hjl : j < parN i := by rw [<- hlen]; exact (List.getElem?_eq_some_iff.mp hj).1
 obtain ⟨n, hn⟩ : ∃ n, (parsAt i)[j]? = some n := ⟨_, List.getElem?_eq_getElem hjl⟩
 have hp : (localsAt i)[j]? = some n := by
  rw [<- S.pars, List.getElem?_take, if_pos hjl] at hn
  exact hn
 rw [hcfg]
 refine ⟨n, v, hp, ?_, ?_, ⟨bs, Reads.keeps F.keep r2, fun b hb => ⟨.inr (r3 b hb), by simp, fun q => ?_⟩⟩⟩
 ·intro q
  have := own_par i hi
  have q : ownAt i = some n := q
  rw [q] at this
  have hm : n ∈ parsAt i := List.mem_of_getElem? hn
  simp [hm] at this
 ·exact zip_lookup (by rw [<- S.pars]; exact S.nodup.sublist (List.take_sublist _ _)) hn r1
 ·obtain ⟨o', h1, _⟩ := Reads.like r2 b hb
  rw [q, hL] at h1; cases h1
theorem ctr (a : All W P) (K : Nat) : ∀ d i args, Ctr W d i args (cfn K d i args)
 | 0, _, _ => fun _ _ _ _ _ _ _ _ _ _ _ _ _ _ _ _ D => D.elim
 | d + 1, i, args => by
  have ih := ctr a K d
  intro A outer s fa vs as Q E hA hd hu hfr hk hff hfa hra D
  rcases cfn_takes K d i args with ⟨c, args', hc, hf, h⟩ | h
  case inr => rw [h] at D; exact D.elim
  rw [h] at D
  have hi : i ∈ runs := cmOf_in hc
  have S := side_of (sides i hi)
  obtain ⟨fa', hfa', F⟩ := a.fns i hi
  rw [hfa] at hfa'
  cases hfa'
  obtain ⟨o, fd, g1, g2, g3, g4, g5, g6, g7⟩ := F.fn
  obtain ⟨vs', hb, hra', hlen⟩ := g7 s vs as args args' hk hra hf
  let f : Fm := { W := W, h₀ := s.heap, A₀ := A, outer := outer, qual := nameAt i, scope := scopeAt i, L := s.heap.objs.size, fa := fa, cd := fd.code, cl := [], cfg := cfAt i, AA := as, cf := cfn K d, K := K, d := d }
  have O : f.Ok' := {
   wf := a.wf
   below := ⟨hfr, hk, hff⟩
   handled := hA
   depth := by show A.depth + 1 + d + 10 < recursionLimit; lia
   units := by show A.units + 3 + 8 * d + 100 < cLine; lia
   kind := S.kind
   loc := S.loc
   glb := S.glb
   nodup := S.nodup
   own := S.own
   fns := rfl
   callee := callee_ok a hi
   calls := ih
   heard := fun q => by
    have : i ≠ 54 := fun e => by subst e; revert hi; decide +kernel
    have q' : (i == 54) = true := q
    simp [this] at q'
   cls := clsOk a.toFacts (by rw [a.C]; exact a.raised)
   raise_ := raiseOk a.toFacts }
  have run := (ss_all O 100 (by decide)).2 _ _ (cmOf_ok hc)
  have hgs : s.heap.get? s.heap.objs.size = none := get_size _
  refine wpAny_call (codeAny_call_def (by lia) (hk _ _ g1) g2 (a.wf.nolimit.keeps hk) (g6.keeps hk) g3 hb (by rw [g4]; exact S.cell) (fun x hx => ?_) (fun h₁ hns hkk => ?_) (by rw [g4]; exact S.co) (by rw [g4]; exact S.gen) (by rw [g4]; exact S.kind))
  ·rw [g4]
   have hm : x.1 ∈ parsAt i := (List.of_mem_zip hx).1
   rw [<- S.pars] at hm
   exact (S.loc _ (List.mem_of_mem_take hm)).1
  ·rw [g5]
   refine run none (startSg i args') _ _ _ (start_ok hi rfl rfl hgs ⟨hns, hkk, Nat.le_refl _⟩ hlen hra') PassesOwn.leaving (dn_bindX D (fun e s' x X hE => ?_) fun fl s' o P D => ?_)
   ·refine leave_frame O.toOk hgs X fun s'' sm hfl => ?_
    obtain ⟨b, rfl, hF, hU⟩ := hfl
    obtain ⟨h₂, tk, rfl⟩ := sm
    exact hE (.ref b) _ ⟨b, h₂, tk, rfl, rfl, hF, hU⟩
   ·cases o with
    | next σ =>
     obtain ⟨rfl, oa', S', X'⟩ := P
     obtain ⟨h₂, tk, rfl⟩ := X'.same
     exact D .none _ ⟨⟨h₂, tk, rfl, S'.keep⟩, [], .none, fun b hb' => nomatch hb'⟩
    | brk σ => exact D.elim
    | cont σ => exact D.elim
    | ret v =>
     obtain ⟨w, rfl, R, kp, h₂, tk, rfl⟩ := P
     refine D w _ ⟨⟨h₂, tk, rfl, kp⟩, ?_⟩
     cases v with
     | d y => exact R
     | exc y => exact R
end
open Builtin Builtin.ObjectAttr
section
variable {prog : Program} {w : World} {A : Around} {E : Value -> Shared -> Prop} {h : Heap} {g : Array GenState} {d : Drawn} {t : Nat} {os : OsState} {e dd : Addr} {oe : Obj} {vs : Array Value}
variable {nm q : Str} {C N : Addr} {bs bm : List Value} {sn : List Str} {sub : List Value} {ab : Bool} {col : Option Bool} {cdd : Option Addr} {k0 k1 k2 k3 k5 : Option Value} {B newId : String} {mN mA : Str -> Option Value} {name : Str} {v : Value}
theorem attr_entry {tk : Tok} {Q : Fin -> Shared -> Prop} (FB : ExcAttrBase B bm) (hC : h.get? C = some (excClassObj nm q C N bs bm true sn sub ab col cdd k0 k1 k2 k3 k5 newId)) (hn : h.Ns N mN) (hna : mN name = none)
  (hB : typeLookup (.type B) name = pure none) (he : h.get? e = some oe) (hc : oe.cls = .ref C) (hd : oe.data = .fields vs) (hdd : oe.dict = some dd) (hns : h.Ns1 dd mA) (hv : mA name = some v) (hq : Q (.done (.ret v)) ⟨h, g, d, t, os⟩) :
  wpAny (model prog w) A (Builtin.«object.__getattribute__» ⟨[.ref e, .str name tk], []⟩) Q E ⟨h, g, d, t, os⟩ := by
 unfold Builtin.«object.__getattribute__»
 repeat (first | (with_reducible refine wpAny_loadPart_at he ?_; rw [hc]) | (with_reducible refine wpAny_typeLookup_exc hC hn FB.mro hB ?_; rw [hna]) | wp_step)
 rw [hd]
 dsimp only
 unfold instanceDict
 repeat (first | (with_reducible refine wpAny_loadPart_at he ?_; rw [hc]) | with_reducible refine wpAny_loadPart_at hC ?_ | wp_step)
 rw [hdd]
 repeat (first | (with_reducible refine wpAny_nsGet hns.ns ?_; rw [hv]) | wp_step)
 exact hq
theorem attr_call {tk : Tok} {R : Result -> Shared -> Prop} (FB : ExcAttrBase B bm) (hC : h.get? C = some (excClassObj nm q C N bs bm true sn sub ab col cdd k0 k1 k2 k3 k5 newId)) (hn : h.Ns N mN) (hna : mN name = none)
  (hB : typeLookup (.type B) name = pure none) (he : h.get? e = some oe) (hc : oe.cls = .ref C) (hd : oe.data = .fields vs) (hdd : oe.dict = some dd) (hns : h.Ns1 dd mA) (hv : mA name = some v) (hq : R (.ok (.ret v)) ⟨h, g, d, t, os⟩) :
  codeAny (model prog w) A (.call (.builtin "BaseException.__getattribute__") ⟨[.ref e, .str name tk], []⟩) R ⟨h, g, d, t, os⟩ :=
 codeAny_call_builtin FB.ga.plain F.entry_bexc_ga (wpAny_check_ga_own FB hC OwnTailQ.base he hc (attr_entry FB hC hn hna hB he hc hd hdd hns hv hq))
theorem attr_get {expr : Bool} {Q : Value -> Shared -> Prop} (FB : ExcAttrBase B bm) (hC : h.get? C = some (excClassObj nm q C N bs bm true sn sub ab col cdd k0 k1 k2 k3 k5 newId)) (hn : h.Ns N mN) (hna : mN name = none)
  (hg1 : mN "__getattribute__" = none) (hg2 : mN "__getattr__" = none)
  (hB : typeLookup (.type B) name = pure none) (he : h.get? e = some oe) (hc : oe.cls = .ref C) (hd : oe.data = .fields vs) (hdd : oe.dict = some dd) (hns : h.Ns1 dd mA) (hv : mA name = some v) (hh : handedOut v = pure v) (hq : Q v ⟨h, g, d, t + 1, os⟩) :
  wpAny (model prog w) A (getAttr (.ref e) name expr) Q E ⟨h, g, d, t, os⟩ := by
 have f3 := FB.ga.bind (.ref e)
 have hx0 : (expr && onTheHeap (Value.builtin "BaseException.__getattribute__")) = false := by cases expr <;> rfl
 have hx2 : (Value.builtin "BaseException.__getattribute__" == Value.builtin "object.__getattribute__") = false := by decide +kernel
 have hx1 : (onTheHeap (Value.ref C) && Value.builtin "BaseException.__getattribute__" == Value.builtin "object.__getattribute__") = false := by rw [hx2]; rfl
 unfold getAttr getAttrBy
 repeat (any_goals (first | assumption | (with_reducible refine wpAny_loadPart_at he ?_; rw [hc]) | (with_reducible refine wpAny_typeLookup_exc hC hn FB.mro FB.ga.lookup ?_; rw [hg1]) | (with_reducible refine wpAny_typeLookup_exc hC hn FB.mro FB.noGetattr ?_; rw [hg2]) | wp_step))
 refine attr_call FB hC hn hna hB he hc hd hdd hns hv ?_
 show wpAny _ _ (handedOut v) Q E _
 rw [hh]
 exact wpAny_pure hq
end
noncomputable def tHeard (k : Nat) (p : PN) : List Stmt :=
 [.Try [.Return (some (.Call (.Name "way" (p 0)) [.Name "text" (p 1)] [] (p 2))) (p 3)] [.ExceptHandler (some (.Name "Raised" (p 4))) (some "fault") [.Return (some (.List [.Tuple [.Attribute (.Name "fault" (p 5)) "code" (p 6), .Attribute (.Name "fault" (p 7)) "value" (p 8), .Attribute (.Name "fault" (p 9)) "errorcode" (p 10)] k (p 11)] (p 12))) (p 13)] (p 14)] [] [] (p 15)]
theorem isHeard52 : ∃ k p, bodyAt 52 = tHeard k p := ⟨_, pN [_, _, _, _, _, _, _, _, _, _, _, _, _, _, _, _], rfl⟩
section
variable {prog : Program} {w : World} {A : Around} {E : Value -> Shared -> Prop} {s : Shared} {env : Env}
theorem handle_raised {e : Addr} {t : Expr} {n : Str} {b₀ : Stmt} {suite : List Stmt} {pos : Pos} {rest : List ExceptHandler} {Q : Flow -> Shared -> Prop}
  (h : wpAny (model prog w) (A.mark (some (.ref e))) (eval t env) (fun c s₁ => c = .ref 33 /\ s₁.heap.get? 33 = some clsO /\ (∃ oe, s₁.heap.get? e = some oe /\ oe.cls = .ref 33) /\
   wpAny (model prog w) (A.mark (some (.ref e))) (setFlight (.ref e) none) (fun _ s₂ => wpAny (model prog w) (A.mark (some (.ref e))) (storeName env n (.ref e)) (fun _ s₃ =>
    wpAny (model prog w) (A.mark (some (.ref e))) (execs (b₀ :: suite) env) (fun f s₄ => wpAny (model prog w) A (do bindName env n .none; unbindBehindTheSuite env n pos) (fun _ s₅ => Q f s₅) E s₄) (fun _ _ => False) s₃) (fun _ _ => False) s₂) (fun _ _ => False) s₁) (fun _ _ => False) s) :
  wpAny (model prog w) A (handleBy (.ref e) env (.ExceptHandler (some t) (some n) (b₀ :: suite) pos :: rest)) Q E s := by
 refine wpAny_handleBy_cons (codeAny_handlers_test (wpAny_mono h (fun c s₁ h₁ => ?_) fun _ _ x => x.elim)) (by intro q; cases q)
 obtain ⟨rfl, hC, ⟨oe, he, hc⟩, hk⟩ := h₁
 obtain ⟨hp, g, d, tk, os⟩ := s₁
 refine wpAny_excMatches_sub_self hC he hc (by decide +kernel) ?_
 refine codeAny_handlers_suite_as (wpAny_mono hk (fun _ s₂ h₂ => wpAny_mono h₂ (fun _ s₃ h₃ => wpAny_mono h₃ (fun f s₄ h₄ => h₄) fun _ _ x => x.elim) fun _ _ x => x.elim) fun _ _ x => x.elim)
end
noncomputable def KF (l : List Addr) (h h' : Heap) : Prop := (∀ b o, b ∉ l -> h.get? b = some o -> h'.get? b = some o) /\ h.UpToSlots h'
theorem KF.stays {l : List Addr} {h h' : Heap} (k : h.StaysIn h') : KF l h h' := ⟨fun b o _ q => k b o q, Heap.UpToSlots.of_keeps k⟩
theorem KF.trans {l : List Addr} {a b c : Heap} (x : KF l a b) (y : KF l b c) : KF l a c := ⟨fun q o h e => y.1 q o h (x.1 q o h e), x.2.trans y.2⟩
theorem KF.but {l : List Addr} {h h₁ h₂ : Heap} {L : Addr} (x : KF l h h₁) (hL : h.get? L = none) (k : ∀ b o, b ≠ L -> h₁.get? b = some o -> h₂.get? b = some o) : KF l h h₂ := by
 have ne : ∀ b o, h.get? b = some o -> b ≠ L := fun b o q z => by rw [z, hL] at q; cases q
 refine ⟨fun b o hb q => k b o (ne b o q) (x.1 b o hb q), fun b o q hn => ?_⟩
 obtain ⟨sl, e⟩ := x.2 b o q hn
 exact ⟨sl, k b _ (ne b o q) e⟩
theorem k52 : (scopeAt 52).kind = .function := by kernel_rfl
theorem loc52 : ∀ y ∈ (["way", "text", "fault"] : List Str), (scopeAt 52).names.lookup y = some .local := by decide +kernel
theorem glb52 : (scopeAt 52).names.lookup ("Raised" : Str) = some .globalImplicit := by decide +kernel
theorem cell52 : ∀ x ∈ (scopeAt 52).names, x.2 ≠ .cell := by decide +kernel
theorem bd52 {a b pm cd doc : Value} : bindArgs (PwB 52 pm cd doc) ⟨[a, b], []⟩ = pure [(("way" : Str), a), (("text" : Str), b)] := rfl
theorem name52 : nameAt 52 = ("_law_heard" : Str) := by kernel_rfl
structure H52 (W : Wd) (fa : Addr) : Prop where
 fn : ∃ o pm code doc, W.hR.get? fa = some o /\ o.data = .func (PwB 52 pm code doc) /\ W.hR.CodeRec code (nameAt 52)
theorem reads_butL {h h' : Heap} {L : Addr} {v : Value} {x : PyData} {as : List Addr} (hL : ∃ m, h.Ns L m) (k : ∀ b o, b ≠ L -> h.get? b = some o -> h'.get? b = some o) (r : Reads h v x as) (ha : ∀ b ∈ as, b ≠ L) : Reads h' v x as := by
 refine Reads.but (D := fun b => b = L) k ?_ r fun b hb q => ha b hb q
 rintro b o vs n rfl e _ hd
 obtain ⟨m, o', es, ep, q1, q2, _⟩ := hL
 rw [q1] at e; cases e; rw [q2] at hd; cases hd
noncomputable abbrev E52 (L fa : Addr) (cd : Value) : Env := envX (nameAt 52) (scopeAt 52) L fa cd []
theorem kind52 (L fa : Addr) (cd : Value) : ((E52 L fa cd).scope.kind == .class || ((E52 L fa cd).scope.kind == .module && (E52 L fa cd).locals != (E52 L fa cd).globals)) = false := by
 show ((scopeAt 52).kind == .class || ((scopeAt 52).kind == .module && L != mainGlobals)) = false
 rw [k52]; rfl
structure Flt (h : Heap) (ea : Addr) (x : Xc) : Prop where
 ex : ∃ oe vs dd, h.get? ea = some oe /\ oe.cls = .ref 33 /\ oe.dict = some dd /\ oe.data = .fields vs /\ XDict h dd x
 cls : h.get? 33 = some clsO
 ns : h.Ns 32 clsNs
section
variable {W : Wd} {P : Params} {A : Around} {E : Value -> Shared -> Prop} {s : Shared} {L fa ea : Addr} {cd : Value} {x : Xc} {h₀ : Heap} {m : Str -> Option Value}
theorem fault_att (F : Fr h₀ L s.heap m) (hm : m "fault" = some (.ref ea)) (hC : s.heap.get? 33 = some clsO) (hN : s.heap.Ns 32 clsNs) {oe : Obj} {vs : Array Value} {dd : Addr} {mA : Str -> Option Value} (h1 : s.heap.get? ea = some oe) (h2 : oe.cls = .ref 33) (h3 : oe.dict = some dd) (h4 : oe.data = .fields vs) (h5 : s.heap.Ns1 dd mA)
  {nm : Str} {v : Value} {p q : Pos} {Q : Value -> Shared -> Prop} (hnm : nm ∈ setNames) (hv : mA nm = some v) (hh : handedOut v = pure v) (hq : Q v { s with toks := s.toks + 1 }) : wpAny (Mw W.w) A (eval (.Attribute (.Name "fault" p) nm q) (E52 L fa cd)) Q E s := by
 obtain ⟨h', g', d', t', os'⟩ := s
 exact Attribute_name (ldX F hm (attr_get PySem.F.attrBase_Exception hC hN (clsNs_none nm hnm) (by decide +kernel) (by decide +kernel) (exc_none nm hnm) h1 h2 h4 h3 h5 hv hh hq) k52 (loc52 _ (.tail _ (.tail _ (.head _)))) (by decide))
theorem fault_list (F : Fr h₀ L s.heap m) (hm : m "fault" = some (.ref ea)) (X : Flt s.heap ea x) {k : Nat} {p : PN} {Q : Value -> Shared -> Prop}
  (hQ : ∀ s' a, Grow s s' -> s.heap.objs.size <= a -> Reads s'.heap (.ref a) (xList x) [a] -> Q (.ref a) s') :
  wpAny (Mw W.w) A (eval (.List [.Tuple [.Attribute (.Name "fault" (p 5)) "code" (p 6), .Attribute (.Name "fault" (p 7)) "value" (p 8), .Attribute (.Name "fault" (p 9)) "errorcode" (p 10)] k (p 11)] (p 12)) (E52 L fa cd)) Q E s := by
 obtain ⟨⟨oe, vs, dd, h1, h2, h3, h4, mA, h5, ⟨t1, c1⟩, ⟨t2, c2⟩, ve, c3, rv⟩, hC, hN⟩ := X
 have hve : handedOut ve = pure ve := by obtain ⟨a, ws, rfl, -⟩ := rd_tup rv; rfl
 refine List_ (spliced_more (Tuple_ (spliced_more (fault_att F hm hC hN h1 h2 h3 h4 h5 (by decide) c1 rfl (spliced_more ?_ rfl)) rfl)) rfl)
 have G₁ := Grow.tok s (s.toks + 1)
 refine fault_att (Fr.stays' F G₁.stays) hm hC hN h1 h2 h3 h4 h5 (by decide) c2 rfl (spliced_more ?_ rfl)
 have G₂ := Grow.tok s (s.toks + 1 + 1)
 refine fault_att (Fr.stays' F G₂.stays) hm hC hN h1 h2 h3 h4 h5 (by decide) c3 hve (spliced_none (wpAny_newObj_type (spliced_none (wpAny_newObj_type ?_ (by size_fits))) (by size_fits)))
 have G₃ := Grow.tok s (s.toks + 1 + 1 + 1)
 generalize hs₃ : ({ s with toks := s.toks + 1 + 1 + 1 } : Shared) = s₃ at G₃
 have hz : s.heap.objs.size = s₃.heap.objs.size := by rw [<- hs₃]
 have G₄ := Grow.push s₃ { cls := .type "tuple", data := .seq ([.int 1 t1, .str x.text t2, ve] : List Value).toArray }
 have gT := Heap.get?_push_size s₃.heap (o := { cls := .type "tuple", data := .seq ([.int 1 t1, .str x.text t2, ve] : List Value).toArray }) rfl
 generalize hs₄ : ({ s₃ with heap := s₃.heap.push { cls := .type "tuple", data := .seq ([.int 1 t1, .str x.text t2, ve] : List Value).toArray } } : Shared) = s₄ at G₄
 have gT₄ : s₄.heap.get? s₃.heap.objs.size = some { cls := .type "tuple", data := .seq ([.int 1 t1, .str x.text t2, ve] : List Value).toArray } := by rw [<- hs₄]; exact gT
 have G₅ := Grow.push s₄ { cls := .type "list", data := .seq ([.ref s₃.heap.objs.size] : List Value).toArray }
 subst hs₃ hs₄
 refine hQ _ _ ((G₃.trans G₄).trans G₅) (Nat.le_of_lt (Nat.lt_of_le_of_lt (Nat.le_of_eq hz) (Heap.lt_size gT₄))) ?_
 exact Reads.list (Heap.get?_push_size _ rfl) rfl rfl (ReadsAll.cons (Reads.tuple (G₅.stays _ _ gT₄) rfl rfl (ReadsAll.cons (Reads.int 1 t1) (ReadsAll.cons (Reads.str x.text t2) (ReadsAll.cons (Reads.keeps ((G₃.trans G₄).trans G₅).stays rv) ReadsAll.nil)))) ReadsAll.nil)
theorem heard_suite {l : List Addr} (hgs : h₀.get? L = none) (hL : h₀.objs.size <= L) (F : Fr (hideAll h₀ l) L s.heap m) (hm : m "fault" = some (.ref ea)) (X : Flt s.heap ea x) (kf : KF l h₀ s.heap) {k : Nat} {p : PN} {Q : Flow -> Shared -> Prop} {A' : Around} {E' : Value -> Shared -> Prop}
  (hQ : ∀ a h' tk, KF l h₀ h' -> h₀.get? a = none -> Reads h' (.ref a) (xList x) [a] -> Q (.ret (.ref a)) { s with heap := h', toks := tk }) :
  wpAny (Mw W.w) A (execs [.Return (some (.List [.Tuple [.Attribute (.Name "fault" (p 5)) "code" (p 6), .Attribute (.Name "fault" (p 7)) "value" (p 8), .Attribute (.Name "fault" (p 9)) "errorcode" (p 10)] k (p 11)] (p 12))) (p 13)] (E52 L fa cd))
   (fun f s₄ => wpAny (Mw W.w) A' (do bindName (E52 L fa cd) "fault" .none; unbindBehindTheSuite (E52 L fa cd) "fault" (p 14)) (fun _ s₅ => Q f s₅) E' s₄) E s := by
 refine wpAny_execs_cons (wpAny_Return_some (fault_list F hm X fun s' a G ha R => ?_))
 have F₈ := Fr.stays' F G.stays
 have hlt : L < a := by
  obtain ⟨o1, es, ep, z1, _⟩ := F.ns
  exact Nat.lt_of_lt_of_le (Heap.lt_size z1) ha
 have hfl : (E52 L fa cd).kindOf "fault" = some .local := loc52 _ (.tail _ (.tail _ (.head _)))
 have kf' := kf.trans (KF.stays G.stays)
 obtain ⟨h', tk, rfl, -⟩ := G
 show wpAny (Mw W.w) A' (do bindName (E52 L fa cd) "fault" .none; unbindBehindTheSuite (E52 L fa cd) "fault" (p 14)) _ _ _
 refine wpAny_bind (bindName_ (wpAny_storeName_local hfl F₈.ns (fun h₉ hns₉ hsb₉ => ?_) (kind52 L fa cd)))
 unfold unbindBehindTheSuite
 refine wpAny_onRaise (wpAny_unbindName_local (v := .none) hfl hns₉ (by simp) (kind52 L fa cd) fun h₁₀ u hns₁₀ hsb₁₀ => ?_)
 have k₉ : ∀ b o, b ≠ L -> h'.get? b = some o -> h₁₀.get? b = some o := fun b o hb q => (hsb₁₀.2 b hb).trans ((hsb₉.2 b hb).trans q)
 refine hQ a h₁₀ _ (kf'.but hgs k₉) ?_ (reads_butL ⟨_, F₈.ns⟩ k₉ R fun b hb q => ?_)
 ·cases hq : h₀.get? a with
  | none => rfl
  | some o => exact absurd (Nat.lt_of_lt_of_le (Nat.lt_trans hlt (Heap.lt_size hq)) hL) (Nat.lt_irrefl _)
 ·rw [List.mem_singleton] at hb
  subst hb
  exact absurd hlt (by rw [q]; exact Nat.lt_irrefl _)
end
section
variable {W : Wd} {P : Params}
theorem heard_handle (a : All W P) {A : Around} {E : Value -> Shared -> Prop} {s : Shared} {L fa ea : Addr} {cd : Value} {x : Xc} {h₀ B : Heap} {m : Str -> Option Value} {l : List Addr} {le : List Env} {k : Nat} {p : PN} {Q : Flow -> Shared -> Prop}
  (hgs : h₀.get? L = none) (hL : h₀.objs.size <= L) (hb0 : (hideAll h₀ l).StaysIn B) (hRb : W.hR.StaysIn (hideAll h₀ l)) (hns : s.heap.Ns L m) (hmc : m "code" = none) (u : h₀.UpToSlots s.heap) (k1 : B.StaysIn s.heap) (k2 : s.heap.FunFrames B le) (k3 : XAt 33 s.heap B ea x .none)
  (hQ : ∀ a h' tk, KF l h₀ h' -> h₀.get? a = none -> Reads h' (.ref a) (xList x) [a] -> Q (.ret (.ref a)) { s with heap := h', toks := tk }) :
  wpAny (Mw W.w) A (handleBy (.ref ea) (E52 L fa cd) [.ExceptHandler (some (.Name "Raised" (p 4))) (some "fault") [.Return (some (.List [.Tuple [.Attribute (.Name "fault" (p 5)) "code" (p 6), .Attribute (.Name "fault" (p 7)) "value" (p 8), .Attribute (.Name "fault" (p 9)) "errorcode" (p 10)] k (p 11)] (p 12))) (p 13)] (p 14)]) Q E s := by
 have hsz0 : (hideAll h₀ l).objs.size <= L := by rw [hideAll_size]; exact hL
 have F₄ : Fr (hideAll h₀ l) L s.heap m := ⟨hns, fun b o q => k1 b o (hb0 b o q), hsz0⟩
 refine handle_raised (ldgX F₄ (a.wf.g.keeps hRb) a.raised ?_ k52 glb52 (by decide))
 refine ⟨rfl, F₄.keep _ _ (hRb _ _ a.cls), ?_, ?_⟩
 ·obtain ⟨oe, _, _, _, _, _, e1, e2, _⟩ := k3
  exact ⟨oe, e1, e2⟩
 refine flight_x k1 k2 k3 fun h₅ n1 n2 n3 n4 => ?_
 have F₅ : Fr (hideAll h₀ l) L h₅ m := ⟨n4.ns hns, fun b o q => n1 b o (hb0 b o q), hsz0⟩
 have kf₅ : KF l h₀ h₅ := ⟨fun b o hb q => F₅.keep b o (hideAll_get _ q hb), u.trans n4⟩
 obtain ⟨oe, vs, T, oT, ts, dd, c1, c2, c3, c4, c5, c6, c7, -⟩ := n3
 refine wpAny_storeName_local (loc52 _ (.tail _ (.tail _ (.head _)))) F₅.ns (fun h₆ hns₆ hsb₆ => ?_) (kind52 L fa cd)
 have k₆ : ∀ b o, b ≠ L -> h₅.get? b = some o -> h₆.get? b = some o := fun b o hb q => (hsb₆.2 b hb).trans q
 have F₆ := F₅.set hns₆ hsb₆
 refine heard_suite (s := { s with heap := h₆, toks := s.toks + 1 }) hgs hL F₆ (if_pos rfl) ⟨⟨oe, vs, dd, k₆ _ _ ?_ c1, c2, c3, c7, ?_⟩, F₆.keep _ _ (hRb _ _ a.cls), (a.ns.keeps hRb).keeps F₆.keep⟩ (kf₅.but hgs k₆) fun b h' tk => hQ b h' tk
 ·rintro rfl
  obtain ⟨o1, es, ep, z1, z2, _⟩ := F₅.ns
  rw [c1] at z1; cases z1; rw [c7] at z2; cases z2
 ·obtain ⟨mA, d1, ⟨t1, d2⟩, d3, ve, d4, d5⟩ := c6
  have dL : dd ≠ L := by
   rintro rfl
   obtain ⟨o1, es1, ep1, z1, z2, _, z3⟩ := F₅.ns
   obtain ⟨o2, es2, ep2, y1, y2, _, _, y3⟩ := d1
   rw [z1] at y1; cases y1; rw [z2] at y2; cases y2
   have := (z3 "code").symm.trans (y3 "code")
   rw [d2, hmc] at this
   cases this
  exact ⟨mA, d1.at fun o q => k₆ _ o dL q, ⟨t1, d2⟩, d3, ve, d4, reads_butL ⟨_, F₅.ns⟩ k₆ d5 fun b hb => nomatch hb⟩
theorem run_fn (a : All W P) {K d i : Nat} {args : List PyData} {fw : Addr} (h : cfn K d i args ≠ .stuck) (hfw : W.mg (nameAt i) = some (.ref fw)) : ∃ o' fd', W.hR.get? fw = some o' /\ o'.data = .func fd' := by
 have hi : i ∈ runs := by
  cases d with
  | zero => exact absurd rfl h
  | succ d =>
   rcases cfn_takes K d i args with ⟨c, as, hc, -⟩ | q
   ·exact cmOf_in hc
   ·exact absurd q h
 obtain ⟨fb, e1, e2⟩ := a.fns i hi
 rw [hfw] at e1; cases e1
 obtain ⟨o', fd', r1, r2, _⟩ := e2.fn
 exact ⟨o', fd', r1, r2⟩
theorem heard_ctr (a : All W P) {fa₀ : Addr} (hfa₀ : W.mg "_law_heard" = some (.ref fa₀)) (H : H52 W fa₀) {K d i : Nat} {x : PyData} : HCtr W d i x (heardR (cfn K d i [x])) := by
 intro A outer s fa fw v as Q E hA hd hu hfr hk hff hfa hfw hra D
 rw [hfa₀] at hfa
 cases hfa
 obtain ⟨o, pm, code, doc, g1, g2, g3⟩ := H.fn
 have hr : cfn K d i [x] ≠ .stuck := fun q => by rw [q] at D; exact D
 have C := ctr a K d i [x]
 obtain ⟨o', fd', q1, q2⟩ := run_fn a hr hfw
 have hgs : s.heap.get? s.heap.objs.size = none := get_size _
 refine wpAny_call (codeAny_call_def (by lia) (hk _ _ g1) g2 (a.wf.nolimit.keeps hk) (g3.keeps hk) rfl (BindsTo.of_eq bd52) cell52 (fun y hy => ?_) (fun h₁ hns hkk => ?_) (by kernel_rfl) (by kernel_rfl) k52)
 ·simp only [List.mem_cons, List.not_mem_nil, or_false] at hy
  rcases hy with rfl | rfl
  ·exact loc52 _ (.head _)
  ·exact loc52 _ (.tail _ (.head _))
 ·generalize hL : s.heap.objs.size = L at hns hgs ⊢
  replace hL : s.heap.objs.size <= L := Nat.le_of_eq hL
  obtain ⟨k₁, pp, hbody⟩ := isHeard52
  show wpAny (Mw W.w) (A.deeper (E52 L fa₀ code)) (execs (bodyAt 52) (E52 L fa₀ code)) _ _ _
  rw [hbody]
  have F : Fr s.heap L h₁ (fun x => [(("way" : Str), .ref fw), (("text" : Str), v)].reverse.lookup x) := ⟨hns, hkk, hL⟩
  have hdeep : (A.deeper (E52 L fa₀ code)).frames = some (E52 L fa₀ code :: outer) := Around.frames_deeper hfr
  have B := pushX (name := nameAt 52) (a := fa₀) (cd := code) (cl := []) (⟨hfr, hk, hff⟩ : Below A W.hR outer s.heap) F k52
  have hR₁ : W.hR.StaysIn h₁ := fun b o q => hkk b o (hk b o q)
  refine wpAny_execs_cons ?_
  rw [arm_exec_Try]
  refine wpAny_bind (wpAny_standAt (wpAny_tryStmt_except ?_))
  refine wpAny_execs_cons (wpAny_Return_some (Call_ (ldX F rfl ?_ k52 (loc52 _ (.head _)) (by decide)) rfl))
  refine callWith_def_at q1 q2 (spliced_more (ldX F rfl (spliced_none ⟨hR₁ _ _ q1, ?_⟩) k52 (loc52 _ (.tail _ (.head _))) (by decide)) rfl) rfl
  refine C (A.deeper (E52 L fa₀ code)) (E52 L fa₀ code :: outer) _ fw [v] as _ _ hA (by show A.depth + 1 + d + 10 < recursionLimit; lia) (by show A.units + 3 + 8 * d + 100 < cLine; lia) hdeep hR₁ B.frames hfw (ReadsAll.one (Reads.keeps hkk hra)) ?_
  revert D
  cases cfn K d i [x] with
  | stuck => exact fun D => D
  | ok y =>
   intro D w s' t
   cases y with
   | exc y => exact D.elim
   | d y =>
   obtain ⟨⟨h', tk, rfl, k'⟩, bs, rb, kb⟩ := t
   have kf : KF (framesOf outer) s.heap h' := KF.stays fun b o q => k' b o (hkk b o q)
   exact D w _ ⟨⟨h', tk, rfl, kf.1, kf.2⟩, bs, rb, fun b hb => (kb b hb).elim (fun q => .inl (fresh_of_stays hkk q)) .inr⟩
  | exc xc =>
   intro D e s' X
   rw [a.C] at X
   obtain ⟨ea, h₂, tk₂, rfl, rfl, hF, hU⟩ := X
   have hb0 : (hideAll s.heap (framesOf outer)).StaysIn (hideAll h₁ (framesOf (E52 L fa₀ code :: outer))) := fun b o q => by
    have q' := of_hideAll _ q
    refine hideAll_get _ (hkk b o q') fun hm => ?_
    rcases List.mem_cons.mp hm with rfl | hm
    ·rw [hgs] at q'; cases q'
    ·have hm' : b ∈ framesOf outer := hm
     rw [hideAll_none _ hm'] at q; cases q
   have hRb : W.hR.StaysIn (hideAll s.heap (framesOf outer)) := fun b o q => by
    refine hideAll_get _ (hk b o q) fun hm => ?_
    rw [(hff.mem hm).1] at q; cases q
   refine note_on hdeep rfl hF fun h₃ k1 k2 k3 k4 => ?_
   refine flight_x (s := { s with heap := h₃, toks := tk₂ }) k1 k2 k3 fun h₄ m1 m2 m3 m4 => ?_
   have u₄ : h₁.UpToSlots h₄ := (hU.trans k4).trans m4
   exact heard_handle a (s := { s with heap := h₄, toks := tk₂ }) hgs hL hb0 hRb (u₄.ns hns) rfl ((Heap.UpToSlots.of_keeps hkk).trans u₄) m1 m2 m3 fun b h' tk kf hb R => D _ _ ⟨⟨h', tk, rfl, kf.1, kf.2⟩, _, R, fun c hc => by rw [List.mem_singleton.mp hc]; exact .inl hb⟩
end
noncomputable def pieceLs : List (List Nat) := [[32], [10], [92, 10], [9], [35], [40], [41], [44], [123], [125], [34], [36], [36, 123], [36, 97], [97], [101], [113], [120], [48], [49], [55], [57], [95], [58], [58, 58], [46], [43], [45], [42], [38], [124], [60], [61], [33], [126], [63], [94], [37], [47], [62], [91, 102, 32, 49, 93], [91, 93], [92, 125], [92, 34], [92, 36], [64], [101, 113], [110, 105], [48, 120], [49, 101, 53], [36, 97, 40], [48, 98], [79], [69], [108, 101]]
noncomputable def rowTbl : List Int := [20, 46, 50, 17, 11, 6, 1, 48, 19, 0, 31, 32, 8, 14, 2, 0, 9, 40]
noncomputable def pc (n : Int) : Str := ⟨(pieceLs.getD (n.fmod 55).toNat []).toArray⟩
theorem pieceLen : pieceLs.length = 55 := rfl
theorem rowLen : rowTbl.length = 18 := rfl
theorem par38 : parN 38 = 1 := by kernel_rfl
theorem par39 : parN 39 = 0 := by kernel_rfl
theorem loc38 : (localsAt 38).length = 1 := by kernel_rfl
noncomputable def pieceEx : Ex := match cm38 with | .ret (.idx a _) => a | _ => .none
theorem cm38_eq : cm38 = .ret (.idx pieceEx (.bin .fmod (.v 0) (.int 55))) := by kernel_rfl
theorem ev_pieces (cf : Cfn) (σ : Sg) : ev cf σ pieceEx = .ok (.d (.tuple (pieceLs.map fun x => .str ⟨x.toArray⟩))) := by kernel_rfl
theorem ex_rows (cf : Cfn) (K : Nat) (σ : Sg) : exc cf K cm39 σ = .ok (.ret (.d (.list (rowTbl.map .int)))) := by kernel_rfl
theorem cfn38 (K d : Nat) (n : Int) : cfn K (d + 1) 38 [.int n] = .ok (.d (.str (pc n))) := by
 have hf : full 38 [.int n] = some [.int n] := by unfold full; rw [par38]; rfl
 have hc : cmOf 38 = some cm38 := rfl
 rw [cfn_of hc hf]
 have hs : startSg 38 [.int n] = ⟨[some (.int n)], none⟩ := by unfold startSg; rw [loc38]; rfl
 rw [hs, cm38_eq]
 have h0 : 0 <= n.fmod 55 := Int.fmod_nonneg_of_pos n (by decide)
 have h1 : n.fmod 55 < 55 := Int.fmod_lt_of_pos n (by decide)
 have hlt : (n.fmod 55).toNat < pieceLs.length := by rw [pieceLen]; exact (Int.toNat_lt h0).mpr h1
 have hk : okN (n.fmod 55) = true := by unfold okN; rw [decide_eq_true h0, decide_eq_true (Int.lt_trans h1 (by decide))]; rfl
 have e2 : ev (cfn K d) ⟨[some (.int n)], none⟩ (.bin .fmod (.v 0) (.int 55)) = .ok (.d (.int (n.fmod 55))) := e_op2 rfl rfl (op_fmod (by decide))
 have hd : idxD (.tuple (pieceLs.map fun x => .str ⟨x.toArray⟩)) (.int (n.fmod 55)) = .ok (.str (pc n)) := by
  refine item_ok hk ?_
  unfold pc
  rw [List.getElem?_map, List.getElem?_eq_getElem hlt, List.getD_eq_getElem?_getD, List.getElem?_eq_getElem hlt]
  rfl
 have e3 := e_ix (ev_pieces (cfn K d) ⟨[some (.int n)], none⟩) e2 hd
 show ((ev (cfn K d) ⟨[some (.int n)], none⟩ (.idx pieceEx (.bin .fmod (.v 0) (.int 55)))).bind fun v => .ok (.ret v)).bind outV = _
 rw [e3]; rfl
theorem cfn39 (K d : Nat) : cfn K (d + 1) 39 [] = .ok (.d (.list (rowTbl.map .int))) := by
 have hf : full 39 [] = some [] := by unfold full; rw [par39]; rfl
 have hc : cmOf 39 = some cm39 := rfl
 rw [cfn_of hc hf]
 rw [ex_rows]; rfl
structure CE (env : Env) (cs cr : Addr) : Prop where
 kind : env.scope.kind = .function
 glob : env.globals = mainGlobals
 bui : env.builtins = builtinsNs
 kS : env.kindOf "script" = some .cell
 cS : env.cells.lookup ("script" : Str) = some cs
 kR : env.kindOf "rows" = some .cell
 cR : env.cells.lookup ("rows" : Str) = some cr
 kL : env.kindOf "len" = some .globalImplicit
structure CS (W : Wd) (cs cr la ra : Addr) (script : List Int) (h : Heap) : Prop where
 hR : W.hR.StaysIn h
 cellS : h.IsCell cs (some (.ref la))
 cellR : h.IsCell cr (some (.ref ra))
 readS : Reads h (.ref la) (.list (script.map .int)) [la]
 readR : Reads h (.ref ra) (.list (rowTbl.map .int)) [ra]
theorem CS.stays {W : Wd} {cs cr la ra : Addr} {script : List Int} {h h' : Heap} (C : CS W cs cr la ra script h) (k : h.StaysIn h') : CS W cs cr la ra script h' :=
 ⟨fun b o q => k b o (C.hR b o q), C.cellS.keeps k, C.cellR.keeps k, Reads.keeps k C.readS, Reads.keeps k C.readR⟩
section
variable {W : Wd} {A : Around} {E : Value -> Shared -> Prop} {s : Shared} {env : Env} {cs cr la ra : Addr} {script : List Int}
theorem name_S (X : CE env cs cr) (C : CS W cs cr la ra script s.heap) {p : Pos} {Q : Value -> Shared -> Prop} (h : Q (.ref la) s) : wpAny (Mw W.w) A (eval (.Name "script" p) env) Q E s :=
 wpAny_Name (wpAny_loadName_cell X.kind X.kS X.cS C.cellS h) (by decide)
theorem name_R (X : CE env cs cr) (C : CS W cs cr la ra script s.heap) {p : Pos} {Q : Value -> Shared -> Prop} (h : Q (.ref ra) s) : wpAny (Mw W.w) A (eval (.Name "rows" p) env) Q E s :=
 wpAny_Name (wpAny_loadName_cell X.kind X.kR X.cR C.cellR h) (by decide)
theorem len_S (wf : WF W) (X : CE env cs cr) (C : CS W cs cr la ra script s.heap) (hl : script.length <= 1000) {p q t : Pos} {Q : Value -> Shared -> Prop}
  (h : ∀ t' s', Grow s s' -> Q (.int script.length t') s') : wpAny (Mw W.w) A (eval (.Call (.Name "len" q) [.Name "script" t] [] p) env) Q E s := by
 refine Call_ (Calls.Name_function_global X.kind X.kL (Calls.loadGlobal_builtin (env := env) (by rw [X.glob]; exact wf.g.keeps C.hR) wf.len.1 (by rw [X.bui]; exact wf.b.keeps C.hR) wf.len.2 ?_) (by decide)) rfl
 refine PyProof.Rows.callWith_builtin1 (spliced_more (name_S X C (spliced_none ?_)) rfl) rfl rfl
 have R := C.readS
 generalize hxs : script.map PyData.int = xs at R
 cases R with
 | list ho hc hd hr =>
 rename_i o vs n
 have hlen := reads_len hr
 have e : vs.size = script.length := by
  have : vs.toList.length = vs.size := by simp
  rw [<- this, hlen, <- hxs, List.length_map]
 refine PyProof.Rows.len_list ⟨o, ho, hc, n, hd⟩ (by lia) ?_
 rw [e]
 exact h _ _ (Grow.tok _ _)
theorem item_L {lst ix : Expr} {a : Addr} {xs : List Int} {i : Int} {p : Pos} {Q : Value -> Shared -> Prop} (h0 : 0 <= i) (hi : i < xs.length) (hl : xs.length <= 1000) (hs : ∀ o j, subscripted ix false o j = operate [o, j] (getItem o j))
  (h : wpAny (Mw W.w) A (eval lst env) (fun v s₁ => v = .ref a /\ wpAny (Mw W.w) A (eval ix env) (fun j s₂ => (∃ u, j = .int i u) /\ Reads s₂.heap (.ref a) (.list (xs.map .int)) [a] /\ ∀ t' s', Grow s₂ s' -> Q (.int (xs.getD i.toNat 0) t') s') E s₁) E s) :
  wpAny (Mw W.w) A (eval (.Subscript lst ix p) env) Q E s := by
 refine Subscript_ (wpAny_mono h (fun v s₁ h₁ => ?_) fun _ _ e => e)
 obtain ⟨rfl, h₁⟩ := h₁
 refine wpAny_mono h₁ (fun j s₂ h₂ => ?_) fun _ _ e => e
 obtain ⟨⟨u, rfl⟩, R, hq⟩ := h₂
 have hlt : i.toNat < xs.length := (Int.toNat_lt h0).mpr hi
 have hd : idxD (.list (xs.map .int)) (.int i) = .ok (.int (xs.getD i.toNat 0)) := by
  have hk : okN i = true := by
   unfold okN
   rw [decide_eq_true h0, decide_eq_true (Int.lt_trans hi (Int.lt_of_le_of_lt (Int.ofNat_le.mpr hl) (by decide)))]; rfl
  refine item_ok hk ?_
  rw [List.getElem?_map, List.getElem?_eq_getElem hlt, List.getD_eq_getElem?_getD, List.getElem?_eq_getElem hlt]
  rfl
 have D : Dn (fun v s' (x : PyData) => Grow s₂ s' /\ ∃ bs, Reads s'.heap v x bs) (fun _ _ _ => False) Q E ((idxD (.list (xs.map .int)) (.int i)).bind .ok) := by
  rw [hd]
  rintro v s' ⟨G, bs, rb⟩
  obtain ⟨t, rfl⟩ := rd_int rb
  exact hq _ _ G
 exact snd_idx D R (.int i u) hs fun v s' r G ⟨bs, rb, _⟩ D => D _ _ ⟨G, bs, rb⟩
theorem pick_C (wf : WF W) (X : CE env cs cr) (C : CS W cs cr la ra script s.heap) (hl : script.length <= 1000) {c d : Nat} {k1 k2 k3 : Nat} {p1 p2 p3 p4 p5 p6 p7 p8 p9 p10 : Pos} {Q : Value -> Shared -> Prop}
  (h : ∀ t' s', Grow s s' -> Q (.int (script.getD c (d : Int)) t') s') :
  wpAny (Mw W.w) A (eval (.IfExp (.Compare (.Call (.Name "len" p1) [.Name "script" p2] [] p3) [.Gt] [.Constant (.int c) k1 p4] p5) (.Subscript (.Name "script" p6) (.Constant (.int c) k2 p7) p8) (.Constant (.int d) k3 p9) p10) env) Q E s := by
 refine IfExp_ (wpAny_isTrue_Compare1 (len_S wf X C hl fun t₁ s₁ G₁ => wpAny_Constant_int (gt_int (wpAny_truthy_bool ?_))) rfl)
 have G₂ : Grow s₁ { s₁ with toks := s₁.toks + 1 } := Grow.tok _ _
 by_cases hc : c < script.length
 ·have : decide (((c : Nat) : Int) < (script.length : Int)) = true := by simpa using hc
  rw [this]
  refine item_L (a := la) (xs := script) (i := (c : Int)) (by lia) (by lia) hl (fun _ _ => rfl) (name_S X (C.stays (G₁.trans G₂).stays) ⟨rfl, wpAny_Constant_int ⟨⟨_, rfl⟩, (C.stays (G₁.trans G₂).stays).readS, fun t' s' G => ?_⟩⟩)
  have e : script.getD (Int.toNat (c : Int)) 0 = script.getD c (d : Int) := by
   rw [Int.toNat_natCast, List.getD_eq_getElem?_getD, List.getD_eq_getElem?_getD, List.getElem?_eq_getElem hc]
   rfl
  rw [e]
  exact h _ _ (((G₁.trans G₂).trans (Grow.tok _ _)).trans G)
 ·have : decide (((c : Nat) : Int) < (script.length : Int)) = false := by simpa using hc
  rw [this]
  refine wpAny_Constant_int ?_
  have e : script.getD c (d : Int) = (d : Int) := by
   rw [List.getD_eq_getElem?_getD, List.getElem?_eq_none (by lia)]
   rfl
  have := h s₁.toks.succ { s₁ with toks := s₁.toks + 1 + 1 } ((G₁.trans G₂).trans (Grow.tok _ _))
  rw [e] at this
  exact this
theorem sum_K (wf : WF W) (X : CE env cs cr) (C : CS W cs cr la ra script s.heap) (hl : script.length <= 1000) {k : Nat} (hk : k < 18) {k1 : Nat} {p1 p2 p3 p4 p5 p6 p7 p8 p9 p10 p11 p12 p13 p14 : Pos} {Q : Value -> Shared -> Prop}
  (nameK : ∀ (s₁ : Shared) (p : Pos) (Q : Value -> Shared -> Prop), Grow s s₁ -> (∀ u, Q (.int k u) s₁) -> wpAny (Mw W.w) A (eval (.Name "k" p) env) Q E s₁)
  (h : ∀ t' s', Grow s s' -> Q (.int (rowTbl.getD k 0 + script.getD k 0) t') s') :
  wpAny (Mw W.w) A (eval (.BinOp (.Subscript (.Name "rows" p1) (.Name "k" p2) p3) .Add (.IfExp (.Compare (.Name "k" p4) [.Lt] [.Call (.Name "len" p5) [.Name "script" p6] [] p7] p8) (.Subscript (.Name "script" p9) (.Name "k" p10) p11) (.Constant (.int 0) k1 p12) p13) p14) env) Q E s := by
 have hr : rowTbl.length = 18 := rowLen
 refine wpAny_BinOp (item_L (a := ra) (xs := rowTbl) (i := (k : Int)) (by lia) (by lia) (by lia) (fun _ _ => rfl) (name_R X C ⟨rfl, nameK _ _ _ (Grow.refl _) fun u => ⟨⟨u, rfl⟩, C.readR, fun t₁ s₁ G₁ => ?_⟩⟩))
 rw [Int.toNat_natCast]
 have C₁ := C.stays G₁.stays
 refine IfExp_ (wpAny_isTrue_Compare1 (nameK _ _ _ G₁ fun u => len_S wf X C₁ hl fun t₂ s₂ G₂ => lt_int (wpAny_truthy_bool ?_)) rfl)
 have C₂ := C₁.stays G₂.stays
 by_cases hc : k < script.length
 ·have : decide (((k : Nat) : Int) < (script.length : Int)) = true := by simpa using hc
  rw [this]
  refine item_L (a := la) (xs := script) (i := (k : Int)) (by lia) (by lia) hl (fun _ _ => rfl) (name_S X C₂ ⟨rfl, nameK _ _ _ (G₁.trans G₂) fun u => ⟨⟨u, rfl⟩, C₂.readS, fun t₃ s₃ G₃ => add_int ?_⟩⟩)
  rw [Int.toNat_natCast]
  exact h _ _ (((G₁.trans G₂).trans G₃).trans (Grow.tok _ _))
 ·have : decide (((k : Nat) : Int) < (script.length : Int)) = false := by simpa using hc
  rw [this]
  refine wpAny_Constant_int (add_int ?_)
  have e : script.getD k 0 = (0 : Int) := by
   rw [List.getD_eq_getElem?_getD, List.getElem?_eq_none (by lia)]
   rfl
  have := fun t' => h t' { s₂ with toks := s₂.toks + 1 + 1 } ((G₁.trans G₂).trans (Grow.tok _ _))
  rw [e] at this
  exact this _
end
noncomputable def compNames : List (Str × NameKind) := [((".0" : Str), .local), (("k" : Str), .local), (("_law_piece" : Str), .globalImplicit), (("len" : Str), .globalImplicit), (("rows" : Str), .free), (("script" : Str), .free)]
noncomputable def tL1 (k : Nat) (p : PN) : Stmt := .Assign [.Name "script" (p 0)] (.Subscript (.Name "script" (p 1)) (.Slice none (some (.Constant (.int 63) k (p 2))) none (p 3)) (p 4)) (p 5)
noncomputable def tL2 (p : PN) : Stmt := .Assign [.Name "rows" (p 0)] (.Call (.Name "_law_rows" (p 1)) [] [] (p 2)) (p 3)
noncomputable abbrev tL3r (k1 : Nat) (p : PN) : Expr := .BinOp (.Subscript (.Name "rows" (p 1)) (.Name "k" (p 2)) (p 3)) .Add (.IfExp (.Compare (.Name "k" (p 4)) [.Lt] [.Call (.Name "len" (p 5)) [.Name "script" (p 6)] [] (p 7)] (p 8)) (.Subscript (.Name "script" (p 9)) (.Name "k" (p 10)) (p 11)) (.Constant (.int 0) k1 (p 12)) (p 13)) (p 14)
noncomputable def tL3 (k1 k2 : Nat) (sc : Scope) (p : PN) : Stmt := .Assign [.Name "pieces" (p 15)] (.ListComp (.Call (.Name "_law_piece" (p 0)) [tL3r k1 p] [] (p 16)) [⟨.Name "k" (p 17), .Call (.Name "range" (p 18)) [.Constant (.int 18) k2 (p 19)] [] (p 20), [], 0⟩] sc (p 21)) (p 22)
noncomputable abbrev tPick (c d : Nat) (k1 k2 k3 : Nat) (p : PN) : Expr := .IfExp (.Compare (.Call (.Name "len" (p 1)) [.Name "script" (p 2)] [] (p 3)) [.Gt] [.Constant (.int c) k1 (p 4)] (p 5)) (.Subscript (.Name "script" (p 6)) (.Constant (.int c) k2 (p 7)) (p 8)) (.Constant (.int d) k3 (p 9)) (p 10)
noncomputable def tL4 (k1 k2 k3 m1 m2 m3 t1 t2 : Nat) (p q r : PN) : Stmt := .Assign [.Tuple [.Name "which" (r 0), .Name "gaps" (r 1)] t1 (r 2)] (.Tuple [tPick 18 0 k1 k2 k3 p, tPick 19 342391 m1 m2 m3 q] t2 (r 3)) (r 4)
noncomputable def lAt (i : Nat) : Stmt := (bodyAt 54).getD i (.Pass default)
theorem law_split : bodyAt 54 = lAt 0 :: lAt 1 :: lAt 2 :: lAt 3 :: (bodyAt 54).drop 4 := by kernel_rfl
theorem l0 : ∃ k p, lAt 0 = tL1 k p := ⟨_, pN [_, _, _, _, _, _], rfl⟩
theorem l1 : ∃ p, lAt 1 = tL2 p := ⟨pN [_, _, _, _], rfl⟩
theorem l2 : ∃ k1 k2 sc p, lAt 2 = tL3 k1 k2 sc p /\ sc.kind = .function /\ sc.names = compNames /\ (p 15).line = (p 21).line := ⟨_, _, _, pN [_, _, _, _, _, _, _, _, _, _, _, _, _, _, _, _, _, _, _, _, _, _, _], rfl, rfl, rfl, rfl⟩
theorem l3 : ∃ k1 k2 k3 m1 m2 m3 t1 t2 p q r, lAt 3 = tL4 k1 k2 k3 m1 m2 m3 t1 t2 p q r /\ okSw (tPick 18 0 k1 k2 k3 p) (tPick 19 342391 m1 m2 m3 q) = true :=
 ⟨_, _, _, _, _, _, _, _, pN [default, _, _, _, _, _, _, _, _, _, _], pN [default, _, _, _, _, _, _, _, _, _, _], pN [_, _, _, _, _], rfl, rfl⟩
noncomputable def pieceAt (script : List Int) (k : Nat) : Str := pc (rowTbl.getD k 0 + script.getD k 0)
noncomputable def piecesD (script : List Int) : PyData := .list ((List.range 18).map fun k => .str (pieceAt script k))
noncomputable def lawSg (script : List Int) : Sg := ⟨[some (piecesD script), some (.int (script.getD 18 0)), some (.int (script.getD 19 342391)), none, none, none, none, none, none, none], none⟩
theorem loc54 : localsAt 54 = (["pieces", "which", "gaps", "many", "text", "due", "last", "end", "other", "found"] : List Str) := by kernel_rfl
theorem kind54 : (scopeAt 54).kind = .function := by kernel_rfl
theorem glob54 : ∀ n ∈ globsAt 54, (scopeAt 54).names.lookup n = some .globalImplicit /\ (n == ("__debug__" : Str)) = false := by decide +kernel
theorem locs54 : ∀ n ∈ localsAt 54, (scopeAt 54).names.lookup n = some .local /\ (n == ("__debug__" : Str)) = false := by decide +kernel
theorem cells54 (n : Nat) : cellsFrom n (scopeAt 54).names [] = [(("rows" : Str), n + 1), (("script" : Str), n)] := by
 have e : (scopeAt 54).names = [(("script" : Str), NameKind.cell), (("rows" : Str), NameKind.cell)] ++ (scopeAt 54).names.drop 2 := by kernel_rfl
 have e2 : ((scopeAt 54).names.drop 2).all (fun x => x.2 != .cell) = true := by decide +kernel
 have key : ∀ (l : List (Str × NameKind)) (n : Nat) (acc : List (Str × Addr)), l.all (fun x => x.2 != .cell) = true -> cellsFrom n l acc = acc := by
  intro l
  induction l with
  | nil => intro n acc _; rfl
  | cons x l ih =>
   intro n acc h
   rw [List.all_cons, Bool.and_eq_true] at h
   unfold cellsFrom
   have : (x.2 == NameKind.cell) = false := by simpa using h.1
   rw [this]
   exact ih n acc h.2
 rw [e]
 show cellsFrom (n + 1 + 1) _ [(("rows" : Str), n + 1), (("script" : Str), n)] = _
 exact key _ _ _ e2
theorem sidesG54 : sideG 54 = true := by decide +kernel
theorem bd54 {v pm cd doc : Value} : bindArgs (PwB 54 pm cd doc) ⟨[v], []⟩ = pure [(("script" : Str), v)] := rfl
noncomputable abbrev lawEnv (L fa : Addr) (cd : Value) : Env := envX (nameAt 54) (scopeAt 54) L fa cd [(("rows" : Str), L + 1 + 1), (("script" : Str), L + 1)]
theorem lawCE (L fa : Addr) (cd : Value) : CE (lawEnv L fa cd) (L + 1) (L + 1 + 1) where
 kind := kind54
 glob := rfl
 bui := rfl
 kS := by show (scopeAt 54).names.lookup ("script" : Str) = _; kernel_rfl
 cS := rfl
 kR := by show (scopeAt 54).names.lookup ("rows" : Str) = _; kernel_rfl
 cR := rfl
 kL := by show (scopeAt 54).names.lookup ("len" : Str) = _; kernel_rfl
noncomputable def CallP (W : Wd) (i : Nat) : Prop := ∃ a o fd, W.mg (nameAt i) = some (.ref a) /\ W.hR.get? a = some o /\ o.data = .func fd
theorem ints_flat {h h' : Heap} : ∀ {vs : List Value} {ns : List Int} {as : List Addr}, ReadsAll h vs (ns.map .int) as -> as = [] /\ ReadsAll h' vs (ns.map .int) []
 | _, [], _, r => by cases r; exact ⟨rfl, .nil⟩
 | _, n :: ns, _, r => by
  cases r with
  | cons h1 h2 =>
  cases h1
  obtain ⟨e, r⟩ := ints_flat (h' := h') h2
  subst e
  exact ⟨rfl, .cons (.int _ _) r⟩
theorem list_ints {h : Heap} {a : Addr} {ns : List Int} {as : List Addr} (r : Reads h (.ref a) (.list (ns.map PyData.int)) as) : ∃ o vs n, h.get? a = some o /\ o.cls = .type "list" /\ o.data = .seq vs n /\ (∀ h', ReadsAll h' vs.toList (ns.map PyData.int) []) := by
 generalize hx : ns.map PyData.int = xs at r
 cases r with
 | list h1 h2 h3 h4 =>
 subst hx
 exact ⟨_, _, _, h1, h2, h3, fun h' => (ints_flat (h' := h') h4).2⟩
noncomputable def Fp (script : List Int) (v y : Value) : Prop := ∀ k t, v = .int ((k : Nat) : Int) t -> k < 18 -> ∃ u, y = .str (pieceAt script k) u
theorem pieces_reads {script : List Int} {h : Heap} {vs ys : List Value} {off : Nat} (H : Paired (Fp script) vs ys) (hl : off + vs.length <= 18) (hv : ∀ j v, vs[j]? = some v -> ∃ t, v = Value.int (((off + j : Nat)) : Int) t) :
  ReadsAll h ys ((List.range' off vs.length).map fun k => .str (pieceAt script k)) [] := by
 induction H generalizing off with
 | nil => exact .nil
 | cons h1 h2 ih =>
  obtain ⟨t, rfl⟩ := hv 0 _ rfl
  obtain ⟨u, rfl⟩ := h1 off t rfl (Nat.lt_of_lt_of_le (Nat.lt_add_of_pos_right (Nat.succ_pos _)) hl)
  rw [List.length_cons, List.range'_succ, List.map_cons]
  exact .cons (.str _ _) (ih (off := off + 1) (by rw [Nat.add_assoc, Nat.add_comm 1]; exact hl) fun j v hj => by rw [Nat.add_assoc, Nat.add_comm 1]; exact hv (j + 1) v hj)
theorem walks_bound {prog : Program} {w : World} {A : Around} {I : Addr} {fp wr : List Addr} {n : Nat} {P : Nat -> Value -> Prop} {St : Nat -> Heap -> Prop} (W : Walks prog w A I fp wr n P St) : Walks prog w A I fp wr n (fun i v => i < n /\ P i v) St where
 sub := W.sub
 frame := W.frame
 item := fun i s Q E hi st hQ => W.item i s Q E hi st fun v h' tk hv => hQ v h' tk ⟨hi, hv⟩
 done := W.done
 self := W.self
theorem relabel_names {sc : Scope} {L fa : Addr} {cd : Value} (h : sc.names = compNames) : (relabel sc (lawEnv L fa cd)).names = [((".0" : Str), .local), (("k" : Str), .local), (("_law_piece" : Str), .globalImplicit), (("len" : Str), .globalImplicit), (("rows" : Str), .cell), (("script" : Str), .cell)] := by
 unfold relabel
 dsimp only
 rw [h]
 have e2 : (lawEnv L fa cd).kindOf "rows" = some .cell := (lawCE L fa cd).kR
 have e3 : (lawEnv L fa cd).kindOf "script" = some .cell := (lawCE L fa cd).kS
 simp only [compNames, List.map_cons, List.map_nil, e2, e3]
 rfl
theorem compCE {sc : Scope} {L fa C : Addr} {cd : Value} (hk : sc.kind = .function) (h : sc.names = compNames) : CE (compEnvC sc [(("script" : Str), L + 1), (("rows" : Str), L + 1 + 1)] C (lawEnv L fa cd)) (L + 1) (L + 1 + 1) where
 kind := hk
 glob := rfl
 bui := rfl
 kS := by show (relabel sc (lawEnv L fa cd)).names.lookup _ = _; rw [relabel_names h]; rfl
 cS := rfl
 kR := by show (relabel sc (lawEnv L fa cd)).names.lookup _ = _; rw [relabel_names h]; rfl
 cR := rfl
 kL := by show (relabel sc (lawEnv L fa cd)).names.lookup _ = _; rw [relabel_names h]; rfl
theorem closure54 {sc : Scope} {L fa : Addr} {cd : Value} (h : sc.names = compNames) : closureFor sc (lawEnv L fa cd) = pure [(("script" : Str), L + 1), (("rows" : Str), L + 1 + 1)] := by
 unfold closureFor
 rw [h]
 rfl
section
variable {W : Wd} {P : Params}
theorem callee54 (a : All W P) : ∀ x ∈ globsAt 54, ∀ j, fnNames.findIdx? (· == x) = some j -> ∃ a o fd, W.mg x = some (.ref a) /\ W.hR.get? a = some o /\ o.data = .func fd := by
 intro x hx j hj
 have hs := sidesG54
 unfold sideG at hs
 rw [List.all_eq_true] at hs
 have h2 := hs x hx
 rw [hj] at h2
 rw [Bool.and_eq_true, decide_eq_true_eq] at h2
 obtain ⟨hn, hlt⟩ := name_of hj
 have := a.fns0 j h2.1 hlt h2.2
 rwa [hn] at this
noncomputable abbrev f54 (W : Wd) (K d : Nat) (fa L : Addr) (cd : Value) (h₀ : Heap) : Fm := { W := W, h₀ := h₀, A₀ := callerA, outer := [], qual := nameAt 54, scope := scopeAt 54, L := L, fa := fa, cd := cd, cl := [(("rows" : Str), L + 1 + 1), (("script" : Str), L + 1)], cfg := cfAt 54, AA := [], cf := cfn K (d + 1), K := K, d := d + 1 }
theorem no54 : ownAt 54 = none := by decide +kernel
section
variable {K d : Nat} {fa L fh la ra : Addr} {cd : Value} {h₀ : Heap} {script : List Int} {s : Shared} {Q : Flow -> Shared -> Prop} {E : Value -> Shared -> Prop}
theorem own54 {x : Str} : (f54 W K d fa L cd h₀).cfg.own ≠ some x := fun q => nomatch no54.symm.trans q
theorem ok54 (a : All W P) (hfh : W.mg "_law_heard" = some (.ref fh)) (Hh : H52 W fh) (hd : d + 330 < 1000) (hR : W.hR.StaysIn h₀) : (f54 W K d fa L cd h₀).Ok' where
 wf := a.wf
 below := ⟨rfl, hR, trivial⟩
 handled := rfl
 depth := by show 1 + claimMargin + 1 + (d + 1) + 10 < 1000; have : claimMargin = 300 := rfl; lia
 units := by show 4 + 3 + 8 * (d + 1) + 100 < 9900; lia
 kind := kind54
 loc := locs54
 glb := glob54
 nodup := by show (localsAt 54).Nodup; rw [loc54]; decide +kernel
 own := fun n q => nomatch no54.symm.trans q
 fns := rfl
 callee := callee54 a
 calls := ctr a K (d + 1)
 heard := fun _ => ⟨rfl, by show 1 + claimMargin + 1 + (d + 1) + 11 < 1000; have : claimMargin = 300 := rfl; lia, by show 4 + 3 + 8 * (d + 1) + 108 < 9900; lia, fun i x => heard_ctr a hfh Hh⟩
 cls := clsOk a.toFacts (by rw [a.C]; exact a.raised)
 raise_ := raiseOk a.toFacts
noncomputable abbrev pcSg (script : List Int) : Sg := ⟨[some (piecesD script), none, none, none, none, none, none, none, none, none], none⟩
theorem st54 {D : Addr} {h : Heap} (F : Fr h₀ L h (fun z => if z = ("pieces" : Str) then some (.ref D) else none)) (rD : Reads h (.ref D) (piecesD script) [D]) (hD0 : h₀.get? D = none) (hDL : D ≠ L) : St (f54 W K d fa L cd h₀) none (pcSg script) h := by
 refine ⟨_, F, fun j x hx => ?_, rfl⟩
 match j with
 | 0 =>
  obtain rfl : piecesD script = x := Option.some.inj (Option.some.inj hx)
  refine ⟨"pieces", .ref D, ?_, own54, if_pos rfl, [D], rD, fun b hb => ?_⟩
  ·show (localsAt 54)[0]? = _; rw [loc54]; rfl
  ·rw [List.mem_singleton] at hb
   subst hb
   exact ⟨.inl hD0, nofun, hDL⟩
 | j + 1 =>
  have : ∀ y ∈ (List.replicate 9 none : List (Option PyData)), y = none := fun y h => List.eq_of_mem_replicate h
  exact nomatch this _ (List.mem_of_getElem? (i := j) hx)
theorem law_go (O : (f54 W K d fa L cd h₀).Ok') (S : St (f54 W K d fa L cd h₀) none (lawSg script) s.heap) (pure_ : exc (cfn K (d + 1)) K cm54 (lawSg script) = .ok (.ret (.d (.bool true))))
  (hQ : ∀ s', Sm s s' -> h₀.StaysIn s'.heap -> Q (.ret (.bool true)) s') (hE : PassesOwn (Mw W.w) (callerA.deeper (lawEnv L fa cd)) (lawEnv L fa cd) E) : wpAny (Mw W.w) (f54 W K d fa L cd h₀).A (execs ((bodyAt 54).drop 4) (f54 W K d fa L cd h₀).env) Q E s := by
 refine (ss_all O 100 (by decide)).2 _ _ cp54 none (lawSg script) s Q E S hE ?_
 rw [pure_]
 refine fun fl s' Pp => ?_
 obtain ⟨w, rfl, ⟨bs, rb, _⟩, kk, sm'⟩ := Pp
 cases rb
 exact hQ s' sm' kk
theorem law_t4 (a : All W P) (hfh : W.mg "_law_heard" = some (.ref fh)) (Hh : H52 W fh) (hd : d + 330 < 1000) (hR : W.hR.StaysIn h₀) (hlen : script.length <= 63) (S : St (f54 W K d fa L cd h₀) none (pcSg script) s.heap) (C : CS W (L + 1) (L + 1 + 1) la ra script s.heap)
  (pure_ : exc (cfn K (d + 1)) K cm54 (lawSg script) = .ok (.ret (.d (.bool true)))) (hQ : ∀ s', Sm s s' -> h₀.StaysIn s'.heap -> Q (.ret (.bool true)) s') (hE : PassesOwn (Mw W.w) (callerA.deeper (lawEnv L fa cd)) (lawEnv L fa cd) E) :
  wpAny (Mw W.w) (callerA.deeper (lawEnv L fa cd)) (execs (lAt 3 :: (bodyAt 54).drop 4) (lawEnv L fa cd)) Q E s := by
 have O : (f54 W K d fa L cd h₀).Ok' := ok54 a hfh Hh hd hR
 have X := lawCE L fa cd
 have nW : (localsAt 54)[1]? = some ("which" : Str) := by rw [loc54]; rfl
 have nG : (localsAt 54)[2]? = some ("gaps" : Str) := by rw [loc54]; rfl
 obtain ⟨k1, k2, k3, m1, m2, m3, t1, t2, p4, q4, r4, h4, hsw4⟩ := l3
 rw [h4]
 refine wpAny_execs_cons ?_
 show wpAny _ (f54 W K d fa L cd h₀).A (exec _ (f54 W K d fa L cd h₀).env) _ E _
 refine two_disp rfl (swapped_two O.toOk (List.mem_of_getElem? nW) (List.mem_of_getElem? nG) hsw4 rfl rfl) rfl ?_
 refine pick_C (c := 18) (d := 0) a.wf X C (by lia) fun t₁ s₁ G₁ => pick_C (c := 19) (d := 342391) a.wf X (C.stays G₁.stays) (by lia) fun t₂ s₂ G₂ s₃ G₃ => ?_
 have Gall := (G₁.trans G₂).trans G₃
 have S₃ := S.grow Gall
 have rI : ∀ {h : Heap} {n : Int} {t : Tok}, Rp (f54 W K d fa L cd h₀) none h (.int n t) (.int n) := ⟨[], .int _ _, fun b hb => nomatch hb⟩
 exact ⟨put_ok O.toOk (i := 1) nW own54 S₃ rI fun s₄ S₄ X₄ => put_ok O.toOk (i := 2) nG own54 S₄ rI fun s₅ S₅ X₅ => law_go O S₅ pure_ (fun s' m => hQ s' (((Sm.grow Gall).trans (X₄.same.trans X₅.same)).trans m)) hE,
  put_ok O.toOk (i := 2) nG own54 S₃ rI fun s₄ S₄ X₄ => put_ok O.toOk (i := 1) nW own54 S₄ rI fun s₅ S₅ X₅ => law_go O S₅ pure_ (fun s' m => hQ s' (((Sm.grow Gall).trans (X₄.same.trans X₅.same)).trans m)) hE⟩
theorem law_t3 (a : All W P) (hfh : W.mg "_law_heard" = some (.ref fh)) (Hh : H52 W fh) (hd : d + 330 < 1000) (hR : W.hR.StaysIn h₀) (hlen : script.length <= 63) (F : Fr h₀ L s.heap (fun _ => none)) (C : CS W (L + 1) (L + 1 + 1) la ra script s.heap)
  (pure_ : exc (cfn K (d + 1)) K cm54 (lawSg script) = .ok (.ret (.d (.bool true)))) (hQ : ∀ s', Sm s s' -> h₀.StaysIn s'.heap -> Q (.ret (.bool true)) s') (hE : PassesOwn (Mw W.w) (callerA.deeper (lawEnv L fa cd)) (lawEnv L fa cd) E) :
  wpAny (Mw W.w) (callerA.deeper (lawEnv L fa cd)) (execs (lAt 2 :: lAt 3 :: (bodyAt 54).drop 4) (lawEnv L fa cd)) Q E s := by
 have X := lawCE L fa cd
 have hRs : ∀ {h : Heap}, h₀.StaysIn h -> W.hR.StaysIn h := fun k b o q => k b o (hR b o q)
 have hRL : W.hR.get? L = none := fresh_of_stays hR (by
  cases hq : h₀.get? L with
  | none => rfl
  | some o => exact absurd (Nat.lt_of_lt_of_le (Heap.lt_size hq) F.above) (Nat.lt_irrefl _))
 have ff : ∀ {h : Heap} {m : Str -> Option Value}, h.Ns L m -> h.FunFrames W.hR [lawEnv L fa cd] := fun hn => Heap.FunFrames.cons (by show (scopeAt 54).kind ≠ .module; rw [kind54]; decide) rfl hn hRL trivial
 have hfrm : (callerA.deeper (lawEnv L fa cd)).frames = some [lawEnv L fa cd] := Around.frames_deeper (below_caller h₀).stack
 have hdep : (callerA.deeper (lawEnv L fa cd)).depth + (d + 1) + 10 < recursionLimit := by show 1 + claimMargin + 1 + (d + 1) + 10 < 1000; have : claimMargin = 300 := rfl; lia
 have huni : (callerA.deeper (lawEnv L fa cd)).units + 8 * (d + 1) + 100 < cLine := by show 4 + 3 + 8 * (d + 1) + 100 < 9900; lia
 have hLc : L ≠ L + 1 := Nat.ne_of_lt (Nat.lt_succ_self _)
 have hLr : L ≠ L + 1 + 1 := Nat.ne_of_lt (Nat.lt_trans (Nat.lt_succ_self _) (Nat.lt_succ_self _))
 obtain ⟨z3, kn3, sc3, p3, h3, hk3, hsn, hline⟩ := l2
 rw [h3]
 have hp54 : ((lawEnv L fa cd).scope.kind == .class || ((lawEnv L fa cd).scope.kind == .module && (lawEnv L fa cd).locals != (lawEnv L fa cd).globals)) = false := by
  show ((scopeAt 54).kind == .class || ((scopeAt 54).kind == .module && L != mainGlobals)) = false
  rw [kind54]; rfl
 have hloc : ∀ {y : Str}, y ∈ localsAt 54 -> (lawEnv L fa cd).kindOf y = some .local := fun hy => (locs54 _ hy).1
 have hsw : ∀ v, swapsWith (.ListComp v [⟨.Name "k" (p3 17), .Call (.Name "range" (p3 18)) [.Constant (.int 18) kn3 (p3 19)] [] (p3 20), [], 0⟩] sc3 (p3 21)) (some (.Name "pieces" (p3 15))) (p3 22).line (lawEnv L fa cd) = pure true := by
  intro v
  have e1 : (lawEnv L fa cd).blockKind = .function := by
   have h : (lawEnv L fa cd).scope.kind = .function := kind54
   unfold Env.blockKind
   rw [h]
   rfl
  have e2 : (lawEnv L fa cd).kindOf "pieces" = some .local := hloc (by decide +kernel)
  have e3 : (sc3.names.any fun (n, k) => n == ("pieces" : Str) && (k == .local || k == .cell)) = false := by rw [hsn]; decide +kernel
  show (pure ((lawEnv L fa cd).blockKind == .function && (lawEnv L fa cd).kindOf "pieces" == some .local && (p3 15).line == (p3 21).line && !(sc3.names.any fun (n, k) => n == ("pieces" : Str) && (k == .local || k == .cell))) : Sem Bool) = pure true
  rw [e1, e2, e3, hline]
  simp
 refine wpAny_execs_cons (wpAny_Assign_ListComp_free (fun _ => true) (Fp script) (hsw _) (closure54 hsn) (by rw [hsn]; decide +kernel) hk3 (by rw [hsn]; decide +kernel) (by rw [hsn]; rfl) (hloc (by decide +kernel)) hp54 ?_ (by intro _; rfl))
 refine Call_ (ldbX F (a.wf.g.keeps hR) a.wf.range.1 (a.wf.b.keeps hR) a.wf.range.2 ?_ kind54 (glob54 _ (by decide +kernel)).1 (by decide)) rfl
 refine PyProof.Rows.callWith_type1 (spliced_more (wpAny_Constant_int (spliced_none (call_range_1 ?_))) rfl) rfl rfl
 refine wpAny_pyIter_range (IsRange.new _ _ _ _ _ _ _) (range_small (by decide) (by decide)) ?_
 have hrs : Builtin.Range.rangeSize 0 18 1 = 18 := by rw [rangeSize_one]; decide
 rw [hrs]
 dsimp only
 generalize hh₇ : s.heap.push { cls := .type "range", data := .fields #[.int 0 _, .int 18 _, .int 1 _] } = h₇
 have k67 : s.heap.StaysIn h₇ := fun b o q => by rw [<- hh₇]; exact Heap.get?_push_of_some _ q
 generalize hh₈ : h₇.push { cls := .type "range_iterator", data := .fields #[rawInt 0, rawInt 18, rawInt 1] } = h₈
 have k78 : h₇.StaysIn h₈ := fun b o q => by rw [<- hh₈]; exact Heap.get?_push_of_some _ q
 have k68 : s.heap.StaysIn h₈ := fun b o q => k78 b o (k67 b o q)
 have gI : h₈.get? h₇.objs.size = some { cls := .type "range_iterator", data := .fields #[rawInt 0, rawInt 18, rawInt 1] } := by rw [<- hh₈]; exact Heap.get?_push_size _ rfl
 have fI : h₇.get? h₇.objs.size = none := get_size _
 have hI6 : ∀ b o, s.heap.get? b = some o -> b ≠ h₇.objs.size := fun b o q z => by
  have := k67 b o q
  rw [z, fI] at this; cases this
 generalize h₇.objs.size = I at *
 have hLI : L ≠ I := by
  obtain ⟨oL, _, _, q, _⟩ := F.ns
  exact hI6 _ _ q
 refine ⟨I, [I], [I], 18, _, _, (fun _ => none), rfl, walks_bound (Walks.range rfl I 0 1 18), by decide, ?_, ?_, ?_, F.ns.keeps k68, ⟨?_, ?_⟩, ?_⟩
 ·show h₈.get? I = some _
  rw [gI]
  rfl
 ·intro b hb
  rw [List.mem_singleton] at hb
  subst hb
  exact Heap.lt_size gI
 ·simpa using hLI
 ·intro Ca i v s₃ m₃ E' _ _ _ _ _ _
  exact wpAny_pure ⟨rfl, ⟨s₃.heap, s₃.toks, rfl, fun _ _ q => q⟩⟩
 ·intro Ca i v s₃ m₃ E' hC hv _ hns₃ hm₃ hk₃ _
  obtain ⟨hi18, t₃, rfl⟩ := hv
  have k83 : ∀ b o, b ≠ I -> h₈.get? b = some o -> s₃.heap.get? b = some o := fun b o hb q => hk₃ b o (by simpa using hb) q
  have k63 : s.heap.StaysIn s₃.heap := fun b o q => k83 b o (hI6 b o q) (k68 b o q)
  have XC := compCE (L := L) (fa := fa) (C := Ca) (cd := cd) hk3 hsn
  have runs38 : 38 ∈ runs := by decide +kernel
  have n38 : nameAt 38 = ("_law_piece" : Str) := by kernel_rfl
  obtain ⟨fp, e38, F38⟩ := a.fns 38 runs38
  obtain ⟨o38, fd38, q38, d38, _⟩ := F38.fn
  have hR₃ : W.hR.StaysIn s₃.heap := fun b o q => k63 b o (hRs F.keep b o q)
  have kPc : (compEnvC sc3 [(("script" : Str), L + 1), (("rows" : Str), L + 1 + 1)] Ca (lawEnv L fa cd)).kindOf "_law_piece" = some .globalImplicit := by
   show (relabel sc3 (lawEnv L fa cd)).names.lookup _ = _; rw [relabel_names hsn]; rfl
  have kK : (compEnvC sc3 [(("script" : Str), L + 1), (("rows" : Str), L + 1 + 1)] Ca (lawEnv L fa cd)).kindOf "k" = some .local := by
   show (relabel sc3 (lawEnv L fa cd)).names.lookup _ = _; rw [relabel_names hsn]; rfl
  refine Call_ (Calls.Name_function_global XC.kind kPc (Calls.loadGlobal_global (env := compEnvC sc3 [(("script" : Str), L + 1), (("rows" : Str), L + 1 + 1)] Ca (lawEnv L fa cd)) (by rw [XC.glob]; exact a.wf.g.keeps hR₃) (by rw [<- n38]; exact e38) ?_) (by decide)) rfl
  refine callWith_def_at (hR₃ _ _ q38) d38 (spliced_more (sum_K a.wf XC (C.stays k63) (by lia) hi18 (fun s₁ p Q G hq => ?_) fun t' s' G => spliced_none ⟨?_, ?_⟩) rfl) rfl
  ·have := hq t₃
   have e : (0 : Int) + ((i : Nat) : Int) * 1 = ((i : Nat) : Int) := by lia
   rw [<- e] at this
   exact wpAny_Name (wpAny_loadName_local XC.kind kK (hns₃.keeps G.stays) hm₃ this) (by decide)
  ·exact G.stays _ _ (hR₃ _ _ q38)
  ·have nsL : s'.heap.Ns L (fun _ => none) := (F.ns.keeps k63).keeps G.stays
   refine ctr a K (d + 1) 38 [.int (rowTbl.getD i 0 + script.getD i 0)] (callerA.deeper (lawEnv L fa cd)) [lawEnv L fa cd] s' fp _ [] _ _ rfl hdep huni hfrm (fun b o q => G.stays b o (hR₃ b o q)) (ff nsL) e38 (.cons (.int _ _) .nil) ?_
   rw [cfn38]
   refine fun y s'' ⟨G', R⟩ => ?_
   obtain ⟨bs, rb, _⟩ := R
   have Gall := G.trans G'
   obtain ⟨hh, kk, ee, st⟩ := Gall
   refine ⟨fun k t hk hlt => ?_, ⟨hh, kk, ee, st⟩⟩
   injection hk with hk _
   have : k = i := by lia
   subst this
   cases rb
   exact ⟨_, rfl⟩
 ·intro D h' tk ys vs hD hl hpl hlv hPv hpair hns' hk'
  have kh : ∀ b o, b ≠ L -> b ≠ I -> h₈.get? b = some o -> h'.get? b = some o := fun b o h1 h2 q => hk' b o h1 (by simpa using h2) q
  have k6h : ∀ b o, b ≠ L -> s.heap.get? b = some o -> h'.get? b = some o := fun b o h1 q => kh b o h1 (hI6 b o q) (k68 b o q)
  have F₉ : Fr h₀ L h' (fun z => if z = ("pieces" : Str) then some (.ref D) else none) := ⟨hns', fun b o q => k6h b o (fun z => by
   rw [z] at q
   exact absurd (Nat.lt_of_lt_of_le (Heap.lt_size q) F.above) (Nat.lt_irrefl _)) (F.keep b o q), F.above⟩
  have CS₉ : CS W (L + 1) (L + 1 + 1) la ra script h' := by
   obtain ⟨c0, c1, c2, c3, c4⟩ := C
   have nl : ∀ {x : Addr} {xs : List Int}, Reads s.heap (.ref x) (.list (xs.map .int)) [x] -> Reads h' (.ref x) (.list (xs.map .int)) [x] := by
    intro x xs r
    obtain ⟨oa, va, na, p1, p2, p3, p4⟩ := list_ints r
    refine .list (k6h _ _ (fun z => ?_) p1) p2 p3 (p4 _)
    obtain ⟨oL, es, ep, z1, z2, _⟩ := F.ns
    rw [z, z1] at p1; cases p1; rw [z2] at p3; cases p3
   obtain ⟨o1, q1, q2⟩ := c1
   obtain ⟨o2, q3, q4⟩ := c2
   exact ⟨hRs F₉.keep, ⟨o1, k6h _ _ (Ne.symm hLc) q1, q2⟩, ⟨o2, k6h _ _ (Ne.symm hLr) q3, q4⟩, nl c3, nl c4⟩
  have hfil : vs.filter (fun _ => true) = vs := List.filter_eq_self.mpr fun _ _ => rfl
  rw [hfil] at hpair
  have hpr := pieces_reads (h := h') (off := 0) hpair (by lia) fun j v hj => by
   obtain ⟨hj18, t₃, rfl⟩ := hPv j v hj
   exact ⟨t₃, by congr 1; push_cast; lia⟩
  obtain ⟨oD, gD, cD, nD, dD⟩ := hl
  have hDL : D ≠ L := fun z => by
   obtain ⟨oL, es, ep, z1, z2, _⟩ := hns'
   rw [z, z1] at gD; cases gD; rw [z2] at dD; cases dD
  have hD0 : h₀.get? D = none := fresh_of_stays (fun b o q => k68 b o (F.keep b o q)) hD
  have rD : Reads h' (.ref D) (piecesD script) [D] := by
   have e : (List.range' 0 vs.length).map (fun k => PyData.str (pieceAt script k)) = (List.range 18).map fun k => PyData.str (pieceAt script k) := by
    rw [hlv, List.range_eq_range']
   rw [e] at hpr
   exact .list gD cD dD hpr
  exact law_t4 a hfh Hh hd hR hlen (st54 F₉ rD hD0 hDL) CS₉ pure_ (fun s' m => hQ s' m) hE
theorem law_t2 (a : All W P) (hfh : W.mg "_law_heard" = some (.ref fh)) (Hh : H52 W fh) (hd : d + 330 < 1000) (hR : W.hR.StaysIn h₀) (hlen : script.length <= 63) (F : Fr h₀ L s.heap (fun _ => none)) (cS : s.heap.IsCell (L + 1) (some (.ref la))) (cR : s.heap.IsCell (L + 1 + 1) none) (nR : h₀.get? (L + 1 + 1) = none) (rS : Reads s.heap (.ref la) (.list (script.map .int)) [la])
  (pure_ : exc (cfn K (d + 1)) K cm54 (lawSg script) = .ok (.ret (.d (.bool true)))) (hQ : ∀ s', Sm s s' -> h₀.StaysIn s'.heap -> Q (.ret (.bool true)) s') (hE : PassesOwn (Mw W.w) (callerA.deeper (lawEnv L fa cd)) (lawEnv L fa cd) E) :
  wpAny (Mw W.w) (callerA.deeper (lawEnv L fa cd)) (execs (lAt 1 :: lAt 2 :: lAt 3 :: (bodyAt 54).drop 4) (lawEnv L fa cd)) Q E s := by
 have X := lawCE L fa cd
 have hRs : ∀ {h : Heap}, h₀.StaysIn h -> W.hR.StaysIn h := fun k b o q => k b o (hR b o q)
 have hLr : L ≠ L + 1 + 1 := Nat.ne_of_lt (Nat.lt_trans (Nat.lt_succ_self _) (Nat.lt_succ_self _))
 have hcr : L + 1 ≠ L + 1 + 1 := Nat.ne_of_lt (Nat.lt_succ_self _)
 obtain ⟨pc2, h2⟩ := l1
 rw [h2]
 have runs39 : 39 ∈ runs := by decide +kernel
 have n39 : nameAt 39 = ("_law_rows" : Str) := by kernel_rfl
 obtain ⟨fr, e39, F39⟩ := a.fns 39 runs39
 obtain ⟨o39, fd39, q39, d39, _⟩ := F39.fn
 have hRL : W.hR.get? L = none := fresh_of_stays hR (by
  cases hq : h₀.get? L with
  | none => rfl
  | some o => exact absurd (Nat.lt_of_lt_of_le (Heap.lt_size hq) F.above) (Nat.lt_irrefl _))
 have ff : ∀ {h : Heap} {m : Str -> Option Value}, h.Ns L m -> h.FunFrames W.hR [lawEnv L fa cd] := fun hn => Heap.FunFrames.cons (by show (scopeAt 54).kind ≠ .module; rw [kind54]; decide) rfl hn hRL trivial
 have hfrm : (callerA.deeper (lawEnv L fa cd)).frames = some [lawEnv L fa cd] := Around.frames_deeper (below_caller h₀).stack
 have hdep : (callerA.deeper (lawEnv L fa cd)).depth + (d + 1) + 10 < recursionLimit := by show 1 + claimMargin + 1 + (d + 1) + 10 < 1000; have : claimMargin = 300 := rfl; lia
 have huni : (callerA.deeper (lawEnv L fa cd)).units + 8 * (d + 1) + 100 < cLine := by show 4 + 3 + 8 * (d + 1) + 100 < 9900; lia
 refine wpAny_execs_cons (wpAny_Assign_Name (Call_ (ldgX F (a.wf.g.keeps hR) (by rw [<- n39]; exact e39) ?_ kind54 (glob54 _ (by decide +kernel)).1 (by decide)) rfl) rfl)
 refine callWith_function (evalArgs_nil3 ⟨⟨hRs F.keep _ _ q39, d39⟩, ?_⟩)
 refine ctr a K (d + 1) 39 [] (callerA.deeper (lawEnv L fa cd)) [lawEnv L fa cd] _ fr [] [] _ _ rfl hdep huni hfrm (hRs F.keep) (ff F.ns) e39 .nil ?_
 rw [cfn39]
 refine fun v s₅ ⟨G₅, R₅⟩ => ?_
 obtain ⟨bs₅, r₅, fr₅⟩ := R₅
 have hv5 : ∃ ra, v = .ref ra := by
  cases r₅
  exact ⟨_, rfl⟩
 obtain ⟨ra, rfl⟩ := hv5
 obtain ⟨o₅, vs₅, n₅, g5, g6, g7, g8⟩ := list_ints r₅
 have k₅ := G₅.stays
 have cR₅ := cR.keeps k₅
 refine wpAny_storeName_cell X.kind X.kR X.cR cR₅ fun h₆ cR₆ hsb₆ => ?_
 have k₆ : ∀ b o, b ≠ L + 1 + 1 -> s₅.heap.get? b = some o -> h₆.get? b = some o := fun b o hb q => (hsb₆.2 b hb).trans q
 have F₆ : Fr h₀ L h₆ (fun _ => none) := ⟨(F.ns.keeps k₅).at' fun o q => k₆ _ o hLr q, fun b o q => k₆ b o (fun z => by rw [z, nR] at q; cases q) (k₅ _ _ (F.keep b o q)), F.above⟩
 have cS₆ : h₆.IsCell (L + 1) (some (.ref la)) := by
  obtain ⟨oc, q1, q2⟩ := cS
  exact ⟨oc, k₆ _ _ hcr (k₅ _ _ q1), q2⟩
 have hla6 : la ≠ L + 1 + 1 := fun q => by
  cases rS with
  | list p1 p2 p3 p4 =>
  obtain ⟨oc, q1, q2⟩ := cR
  rw [q, q1] at p1; cases p1; rw [q2] at p3; cases p3
 have hra6 : ra ≠ L + 1 + 1 := fun q => by
  obtain ⟨oc, q1, q2⟩ := cR₅
  rw [q, q1] at g5; cases g5; rw [q2] at g7; cases g7
 have rS₆ : Reads h₆ (.ref la) (.list (script.map .int)) [la] := by
  obtain ⟨oa, va, na, p1, p2, p3, p4⟩ := list_ints rS
  exact .list (k₆ _ _ hla6 (k₅ _ _ p1)) p2 p3 (p4 _)
 have rR₆ : Reads h₆ (.ref ra) (.list (rowTbl.map .int)) [ra] := .list (k₆ _ _ hra6 g5) g6 g7 (g8 _)
 have CS₆ : CS W (L + 1) (L + 1 + 1) la ra script h₆ := ⟨hRs F₆.keep, cS₆, cR₆, rS₆, rR₆⟩
 exact law_t3 a hfh Hh hd hR hlen F₆ CS₆ pure_ (fun s' m => hQ s' ((Sm.grow G₅).trans m)) hE
theorem law_body (a : All W P) {fh : Addr} (hfh : W.mg "_law_heard" = some (.ref fh)) (Hh : H52 W fh) {K d : Nat} (hd : d + 330 < 1000) {fa L : Addr} {cd : Value} {script : List Int} (hlen : script.length <= 63)
  {h₀ : Heap} {s : Shared} {l₀ : Addr} {as : List Addr} {Q : Flow -> Shared -> Prop} {E : Value -> Shared -> Prop} (hR : W.hR.StaysIn h₀)
  (F : Fr h₀ L s.heap (fun _ => none)) (cS : s.heap.IsCell (L + 1) (some (.ref l₀))) (cR : s.heap.IsCell (L + 1 + 1) none) (nS : h₀.get? (L + 1) = none) (nR : h₀.get? (L + 1 + 1) = none)
  (rs : Reads s.heap (.ref l₀) (.list (script.map .int)) as)
  (pure_ : exc (cfn K (d + 1)) K cm54 (lawSg script) = .ok (.ret (.d (.bool true))))
  (hQ : ∀ s', Sm s s' -> h₀.StaysIn s'.heap -> Q (.ret (.bool true)) s') (hE : PassesOwn (Mw W.w) (callerA.deeper (lawEnv L fa cd)) (lawEnv L fa cd) E) :
  wpAny (Mw W.w) (callerA.deeper (lawEnv L fa cd)) (execs (bodyAt 54) (lawEnv L fa cd)) Q E s := by
 have X := lawCE L fa cd
 have hRs : ∀ {h : Heap}, h₀.StaysIn h -> W.hR.StaysIn h := fun k b o q => k b o (hR b o q)
 rw [law_split]
 -- script = script[:63]
 obtain ⟨kn, pn, h1⟩ := l0
 rw [h1]
 refine wpAny_execs_cons (wpAny_Assign_Name (Subscript_ (wpAny_Name (wpAny_loadName_cell X.kind X.kS X.cS cS (wpAny_Slice (evalPart_none_step (evalPart_some_step (wpAny_Constant_int (evalPart_none_step ?_)))))) (by decide))) rfl)
 obtain ⟨o₁, vs₁, n₁, g1, g2, g3, g4⟩ := list_ints rs
 have hsz : vs₁.size = script.length := by
  have := reads_len (g4 s.heap)
  rw [List.length_map] at this
  rw [<- this]; simp
 have hL₁ : s.heap.IsList l₀ vs₁ := ⟨o₁, g1, g2, n₁, g3⟩
 have hLc : L ≠ L + 1 := Nat.ne_of_lt (Nat.lt_succ_self _)
 have hcr : L + 1 ≠ L + 1 + 1 := Nat.ne_of_lt (Nat.lt_succ_self _)
 refine subscriptTail_ops (ops := [.ref s.heap.objs.size, .ref l₀]) (Heap.IsList.typeIs (s := { s with heap := s.heap.push { cls := .type "slice", data := .fields #[.none, .int 63 s.toks, .none] }, toks := s.toks + 1 }) (hL₁.push _)) list_getitem_lookup
  (wpAny_getItem_list_slice (hL₁.push _) (Heap.IsSliceOf.new ..) .none (.int _ _) .none (by simp) ?_ (by rw [hsz]; exact Nat.le_trans hlen (by decide))) (by with_unfolding_all rfl) (by intro _; with_unfolding_all rfl)
 have hpick : slicePick vs₁ none (some 63) none = vs₁ := by
  have e : (63 : Int) = ((63 : Nat) : Int) := rfl
  rw [e, slicePick_upto' vs₁ 63, List.take_of_length_le (by simp; lia)]
 dsimp only
 rw [hpick]
 generalize hh₂ : s.heap.push { cls := .type "slice", data := .fields #[.none, .int 63 s.toks, .none] } = h₂
 have k₂ : s.heap.StaysIn h₂ := fun b o q => by rw [<- hh₂]; exact Heap.get?_push_of_some _ q
 generalize hh₃ : h₂.push { cls := .type "list", data := .seq vs₁ } = h₃
 have k₃ : h₂.StaysIn h₃ := fun b o q => by rw [<- hh₃]; exact Heap.get?_push_of_some _ q
 have gl : h₃.get? h₂.objs.size = some { cls := .type "list", data := .seq vs₁ } := by rw [<- hh₃]; exact Heap.get?_push_size _ rfl
 have k13 : s.heap.StaysIn h₃ := fun b o q => k₃ b o (k₂ b o q)
 have cS₃ := cS.keeps k13
 refine wpAny_storeName_cell X.kind X.kS X.cS cS₃ fun h₄ cS₄ hsb₄ => ?_
 have k₄ : ∀ b o, b ≠ L + 1 -> h₃.get? b = some o -> h₄.get? b = some o := fun b o hb q => (hsb₄.2 b hb).trans q
 have F₄ : Fr h₀ L h₄ (fun _ => none) := ⟨(F.ns.keeps k13).at' fun o q => k₄ _ o hLc q, fun b o q => k₄ b o (fun z => by rw [z, nS] at q; cases q) (k13 _ _ (F.keep b o q)), F.above⟩
 have cR₄ : h₄.IsCell (L + 1 + 1) none := by
  obtain ⟨oc, q1, q2⟩ := cR
  exact ⟨oc, k₄ _ _ (Ne.symm hcr) (k13 _ _ q1), q2⟩
 have hla : h₂.objs.size ≠ L + 1 := fun q => by
  obtain ⟨oc, q1, q2⟩ := cS₃
  rw [q, q1] at gl; cases gl; cases q2
 have rS₄ : Reads h₄ (.ref h₂.objs.size) (.list (script.map .int)) [h₂.objs.size] := .list (k₄ _ _ hla gl) rfl rfl (g4 _)
 generalize h₂.objs.size = la at *
 clear gl hh₃ hh₂ k₃ k₂ hla
 exact law_t2 a hfh Hh hd hR hlen F₄ cS₄ cR₄ nR rS₄ pure_ (fun s' m => hQ s' m) hE
end
end
noncomputable def RecsOk (q : Program) : Prop := ∀ i, 3 <= i -> i < 55 -> i ≠ 24 -> isFn i = true -> ∃ pos, (⟨nameAt i, argsAt i, bodyAt i, scopeAt i, pos⟩ : DefRec) ∈ recsOf q
theorem err1 {s : Shared} {a : Value} (h : s.heap.get? 38 = some ⟨.type "tuple", none, .seq #[.ref 37] 0, #[]⟩) : BindsTo s errFd ⟨[a], []⟩ ((parsAt 2).zip [a, .ref 37]) := BindsTo.of_defaults rfl h rfl rfl rfl
theorem err2 {s : Shared} {a b : Value} (h : s.heap.get? 38 = some ⟨.type "tuple", none, .seq #[.ref 37] 0, #[]⟩) : BindsTo s errFd ⟨[a, b], []⟩ ((parsAt 2).zip [a, b]) := BindsTo.of_defaults rfl h rfl rfl rfl
theorem cmd2 {s : Shared} {a b : Value} (h : s.heap.get? 179 = some ⟨.type "tuple", none, .seq #[.bool false] 0, #[]⟩) : BindsTo s cmdFd ⟨[a, b], []⟩ ((parsAt 24).zip [a, b, .bool false]) := BindsTo.of_defaults rfl h rfl rfl rfl
theorem cmd3 {s : Shared} {a b c : Value} (h : s.heap.get? 179 = some ⟨.type "tuple", none, .seq #[.bool false] 0, #[]⟩) : BindsTo s cmdFd ⟨[a, b, c], []⟩ ((parsAt 24).zip [a, b, c]) := BindsTo.of_defaults rfl h rfl rfl rfl
theorem par2 : parN 2 = 2 := by kernel_rfl
theorem par24 : parN 24 = 3 := by kernel_rfl
section
variable {W : Wd} {P : Params}
theorem fnAt2 (X : (myK P).In W.hR) : FnAt W 2 45 := by
 have at_ : ∀ {b : Addr} {o : Obj}, (myK P).lookup b = some o -> W.hR.get? b = some o := fun e => X _ _ e
 refine ⟨_, errFd, at_ (b := 45) rfl, rfl, rfl, rfl, fun L => ?_, codeRec_of X rfl, fun s vs as args args' k r hf => ?_⟩
 ·have : nameAt 2 = ("error" : Str) := by kernel_rfl
  rw [this]; rfl
 ·have hl := reads_len r
  unfold full at hf
  rw [par2] at hf
  split at hf
  ·rename_i h2
   cases hf
   obtain ⟨a, b, rfl⟩ := len2 (hl.trans h2)
   exact ⟨_, err2 (k _ _ (at_ (b := 38) rfl)), r, h2.trans par2.symm⟩
  ·rw [if_neg (by rintro ⟨h, _⟩; cases h)] at hf
   split at hf
   ·rename_i h1
    cases hf
    obtain ⟨a, rfl⟩ := len1 (hl.trans h1.2)
    refine ⟨_, err1 (k _ _ (at_ (b := 38) rfl)), ?_, ?_⟩
    ·have e37 := k _ _ (at_ (b := 37) (o := ⟨.type "tuple", none, .seq #[.str "NONE" 233] 0, #[]⟩) rfl)
     have := ReadsAll.append r (ReadsAll.one (Reads.tuple e37 rfl rfl (ReadsAll.cons (Reads.str "NONE" 233) ReadsAll.nil)))
     rw [List.append_nil, List.append_nil] at this
     exact this
    ·rw [List.length_append, h1.2, par2]; rfl
   ·cases hf
theorem fnAt24 (X : (myK P).In W.hR) : FnAt W 24 186 := by
 have at_ : ∀ {b : Addr} {o : Obj}, (myK P).lookup b = some o -> W.hR.get? b = some o := fun e => X _ _ e
 refine ⟨_, cmdFd, at_ (b := 186) rfl, rfl, rfl, rfl, fun L => ?_, codeRec_of X rfl, fun s vs as args args' k r hf => ?_⟩
 ·have : nameAt 24 = ("command_at" : Str) := by kernel_rfl
  rw [this]; rfl
 ·have hl := reads_len r
  unfold full at hf
  rw [par24] at hf
  split at hf
  ·rename_i h2
   cases hf
   obtain ⟨a, b, c, rfl⟩ := len3 (hl.trans h2)
   exact ⟨_, cmd3 (k _ _ (at_ (b := 179) rfl)), r, h2.trans par24.symm⟩
  ·split at hf
   ·rename_i h1
    cases hf
    obtain ⟨a, b, rfl⟩ := len2 (hl.trans h1.2)
    refine ⟨_, cmd2 (k _ _ (at_ (b := 179) rfl)), ?_, ?_⟩
    ·have := ReadsAll.append r (ReadsAll.one (Reads.bool (h := s.heap) false))
     rw [List.append_nil] at this
     exact this
    ·rw [List.length_append, h1.2, par24]; rfl
   ·rw [if_neg (by rintro ⟨h, _⟩; cases h)] at hf
    cases hf
theorem fnAt_plain {i : Nat} {fa : Addr} {o : Obj} {pm code doc : Value} (hi : i ∈ noDflt) (h1 : W.hR.get? fa = some o) (h2 : o.data = .func (PwB i pm code doc)) (h3 : W.hR.CodeRec code (nameAt i)) : FnAt W i fa := by
 refine ⟨o, _, h1, h2, rfl, rfl, fun L => rfl, h3, fun s vs as args args' k r hf => ?_⟩
 have hne : i ≠ 24 /\ i ≠ 2 := by
  constructor <;> (rintro rfl; revert hi; decide +kernel)
 unfold full at hf
 split at hf
 ·rename_i h
  cases hf
  exact ⟨vs, BindsTo.of_eq (bdAll i hi vs ((reads_len r).trans h) pm code doc), r, h⟩
 ·rw [if_neg (fun h => hne.1 h.1), if_neg (fun h => hne.2 h.1)] at hf
  cases hf
theorem runs_split : ∀ i ∈ runs, i = 2 \/ i = 24 \/ (i ∈ noDflt /\ 3 <= i /\ i < 55 /\ i ≠ 24 /\ isFn i = true) := by decide +kernel
theorem recsOk_of {q : Program} (h : (recsOf q).map (fun r => (r.name, r.params, r.body, r.scope)) = (((List.range 55).filter fun i => decide (3 <= i) && (decide (i ≠ 24) && isFn i)).map fun i => (nameAt i, argsAt i, bodyAt i, scopeAt i))) : RecsOk q := by
 intro i h1 h2 h3 h4
 have hm : (nameAt i, argsAt i, bodyAt i, scopeAt i) ∈ (recsOf q).map (fun r => (r.name, r.params, r.body, r.scope)) := by
  rw [h]
  refine List.mem_map.mpr ⟨i, List.mem_filter.mpr ⟨List.mem_range.mpr h2, ?_⟩, rfl⟩
  rw [decide_eq_true h1, decide_eq_true h3, h4]; rfl
 obtain ⟨r, hr, he⟩ := List.mem_map.mp hm
 obtain ⟨n, a, b, s, pos⟩ := r
 simp only [Prod.mk.injEq] at he
 obtain ⟨e1, e2, e3, e4⟩ := he
 exact ⟨pos, by rw [<- e1, <- e2, <- e3, <- e4]; exact hr⟩
end
section
variable {q : Program} {loose : List Str} {R : WRecords} {XP : (Str -> Option Value) -> Heap -> Prop} {w : World} {s₀ : Shared} {mg mb : Str -> Option Value} {h : Heap}
noncomputable abbrev Wof (w : World) (h : Heap) (mg mb : Str -> Option Value) : Wd := { w := w, hR := h, mg := mg, mb := mb, C := 33 }
theorem all_of (G : Ground q loose R XP w s₀ mg mb h) (Y : (myK w.params).In h) (hq : RecsOk q) : All (Wof w h mg mb) w.params := by
 have g : ∀ {x : Str} {v : Value}, nsIn (myK w.params) mainGlobals x = some (some v) -> mg x = some v := fun e => mg_of Y G.T.g e
 have gn : ∀ {x : Str}, nsIn (myK w.params) mainGlobals x = some none -> mg x = none := fun e => mg_none_of Y G.T.g e
 have n2 : nameAt 2 = ("error" : Str) := by kernel_rfl
 have n24 : nameAt 24 = ("command_at" : Str) := by kernel_rfl
 have e2 : mg (nameAt 2) = some (.ref 45) := by rw [n2]; exact g (by kernel_rfl)
 have e24 : mg (nameAt 24) = some (.ref 186) := by rw [n24]; exact g (by kernel_rfl)
 exact {
  wf := ⟨G.T.g, G.T.b, G.T.nolimit, ⟨gn (by kernel_rfl), (G.T.builtins _ (by decide)).trans (by kernel_rfl)⟩, ⟨gn (by kernel_rfl), (G.T.builtins _ (by decide)).trans (by kernel_rfl)⟩, ⟨gn (by kernel_rfl), (G.T.builtins _ (by decide)).trans (by kernel_rfl)⟩, ⟨gn (by kernel_rfl), (G.T.builtins _ (by decide)).trans (by kernel_rfl)⟩⟩
  C := rfl
  X := Y
  exc := ⟨gn (by kernel_rfl), (G.T.builtins _ (by decide)).trans (by kernel_rfl)⟩
  raised := g (by kernel_rfl)
  fns := fun i hi => by
   rcases runs_split i hi with rfl | rfl | ⟨h1, h2, h3, h4, h5⟩
   ·exact ⟨45, e2, fnAt2 Y⟩
   ·exact ⟨186, e24, fnAt24 Y⟩
   ·obtain ⟨pos, hm⟩ := hq i h2 h3 h4 h5
    obtain ⟨a, o, pm, code, doc, c1, c2, c3, c4⟩ := G.T.fn _ hm
    exact ⟨a, c1, fnAt_plain h1 c2 c3 c4⟩
  fns0 := fun i h2 h3 h5 => by
   by_cases hi2 : i = 2
   ·subst hi2; exact ⟨45, _, errFd, e2, Y _ _ (by rfl), rfl⟩
   ·by_cases hi24 : i = 24
    ·subst hi24; exact ⟨186, _, cmdFd, e24, Y _ _ (by rfl), rfl⟩
    ·obtain ⟨pos, hm⟩ := hq i (by lia) h3 hi24 h5
     obtain ⟨a, o, pm, code, doc, c1, c2, c3, c4⟩ := G.T.fn _ hm
     exact ⟨a, o, _, c1, c2, c3⟩ }
theorem h52_of (G : Ground q loose R XP w s₀ mg mb h) (hq : RecsOk q) : ∃ fa, mg "_law_heard" = some (.ref fa) /\ H52 (Wof w h mg mb) fa := by
 obtain ⟨pos, hm⟩ := hq 52 (by decide) (by decide) (by decide) rfl
 obtain ⟨a, o, pm, code, doc, c1, c2, c3, c4⟩ := G.T.fn _ hm
 exact ⟨a, by rw [<- name52]; exact c1, ⟨o, pm, code, doc, c2, c3, c4⟩⟩
end
noncomputable abbrev lawRow : RowW := PySem.Challenge.rw_oj0060_01.row.toRowW
theorem lawArgs : lawRow.args = [.list .int] := by kernel_rfl
theorem lawRecs : lawRow.records = [] := by kernel_rfl
theorem lawRaises : lawRow.raises = [] := by kernel_rfl
theorem lawPre : lawRow.pre = (((WTm.lit (WData.int 63)).lt (WTm.arg 0).len).not).and (.lit (.bool true)) := by kernel_rfl
theorem lawRet : lawRow.returns = .bool := by kernel_rfl
theorem lawPost : lawRow.post = .eq .res (.lit (.bool true)) := by kernel_rfl
theorem pre_script {args : List WData} (h : lawRow.claim.pre args = true) : ∃ ns : List Int, args = [.list (ns.map .int)] /\ ns.length <= 63 := by
 have h' : (WShape.hasAll lawRow.records args lawRow.args && lawRow.pre.holds lawRow.records { args := args }) = true := h
 rw [lawArgs, lawPre, lawRecs, Bool.and_eq_true] at h'
 obtain ⟨h1, h2⟩ := h'
 match args, h1 with
 | [], h1 => cases h1
 | x :: y :: r, h1 => exact absurd (show (WShape.has [] x (.list .int) && false) = true from h1) (by rw [Bool.and_false]; decide)
 | [x], h1 =>
  have h1 : WShape.has [] x (.list .int) = true := (Bool.and_eq_true_iff.mp (show (WShape.has [] x (.list .int) && true) = true from h1)).1
  obtain ⟨xs, rfl, hx⟩ := hasW_list h1
  obtain ⟨ns, rfl⟩ := items_int hx
  refine ⟨ns, rfl, ?_⟩
  by_cases hle : ns.length <= 63
  ·exact hle
  ·have e : PySem.W.less? (WData.int 63) (WData.int ns.length) = some true := by
    show some (decide ((63 : Int) < (ns.length : Int))) = some true
    rw [decide_eq_true (by lia)]
   simp [WTm.holds, WTm.value, e] at h2
theorem post_true (args : List WData) : lawRow.claim.post args (.bool true) args = true := by
 show (WShape.has lawRow.records (.bool true) lawRow.returns && lawRow.post.holds lawRow.records { args := args, res := some (.bool true), after := args }) = true
 rw [lawRet, lawRecs, lawPost]
 exact Bool.and_eq_true_iff.mpr ⟨by with_unfolding_all rfl, by with_unfolding_all rfl⟩
theorem kd54 (fd : FuncData) {v : Value} (n : Nat) : ∀ x ∈ [(("script" : Str), v)], (scopeAt 54).names.lookup x.1 = some .local \/ ((scopeAt 54).names.lookup x.1 = some .cell /\ ((cellsFrom n (scopeAt 54).names []).lookup x.1).isSome = true) := by
 intro x hx
 rw [List.mem_singleton] at hx
 subst hx
 refine .inr ⟨by kernel_rfl, ?_⟩
 rw [cells54]; rfl
theorem ints_w {R : WRecords} {cl : Str -> Option Addr} {h : Heap} : ∀ {vs : List Value} {ns : List Int} {as : List Addr}, ReadsAllW R cl h vs (ns.map .int) as -> ReadsAll h vs (ns.map .int) []
 | _, [], _, r => by cases r; exact .nil
 | _, n :: ns, _, r => by
  cases r with
  | cons h1 h2 =>
  cases h1
  exact .cons (.int _ _) (ints_w h2)
theorem get_none_of_ge {h : Heap} {b : Addr} (q : h.objs.size <= b) : h.get? b = none := by
 cases hg : h.get? b with
 | none => rfl
 | some o => exact absurd (Heap.lt_size hg) (Nat.not_lt.mpr q)
theorem hasW_reads {R : WRecords} {cl : Str -> Option Addr} {h : Heap} {v : Value} {ns : List Int} {as : List Addr} (r : ReadsW R cl h v (.list (ns.map .int)) as) : ∃ l bs, v = .ref l /\ Reads h v (.list (ns.map .int)) bs := by
 generalize hx : ns.map WData.int = xs at r
 cases r with
 | list h1 h2 h3 h4 =>
 subst hx
 exact ⟨_, _, rfl, .list h1 h2 h3 (ints_w h4)⟩
theorem law_walk {q : Program} {loose : List Str} {XP : (Str -> Option Value) -> Heap -> Prop} {dr : DefRec} (hq : RecsOk q) (hn : dr.name = nameAt 54) (hp : dr.params = argsAt 54) (hb : dr.body = bodyAt 54) (hs : dr.scope = scopeAt 54)
  {K d : Nat} (hd : d + 330 < 1000) (pure_ : ∀ script : List Int, script.length <= 63 -> exc (cfn K (d + 1)) K cm54 (lawSg script) = .ok (.ret (.d (.bool true)))) :
  WalkO q loose XP (kHook myK myAs myAs_ok).says lawRow dr [] (fun f vs => PySem.call f vs) := by
 intro w s₀ s₁ mg mb G Y fa o pm cd doc dV kV ho hdata hcd hD hg hgens args vals as hpre hlay hrd hwell _
 have Y := kIn_of Y
 have a := all_of G Y hq
 obtain ⟨fh, hfh, Hh⟩ := h52_of G hq
 obtain ⟨ns, rfl, hlen⟩ := pre_script hpre
 rw [hn, hp, hb, hs] at hdata
 rw [hn] at hcd
 have hdv : dV = .none := by
  rcases hD.pos with h | h
  ·exact h.2
  ·rw [hp] at h; exact absurd (by kernel_rfl) h.1
 have hkv : kV = .none := by
  rcases hD.kw with h | h
  ·exact h.2
  ·exact absurd rfl h.1
 subst hdv hkv
 cases hrd with
 | cons r1 r2 =>
 cases r2
 obtain ⟨l₀, bs, rfl, rl⟩ := hasW_reads r1
 refine wpAny_call (codeAny_call_cells (fd := PwB 54 pm cd doc) (body := bodyAt 54) (by decide) ho hdata G.T.nolimit hcd rfl bd54 rfl (kd54 (PwB 54 pm cd doc) _) (fun s₂ X => ?_) ?_ ?_ ?_)
 ·have e : callEnvC (PwB 54 pm cd doc) s₁.heap.objs.size fa = lawEnv s₁.heap.objs.size fa cd := by
   unfold callEnvC
   show newEnv (scopeAt 54) s₁.heap.objs.size _ (cellsFrom (s₁.heap.objs.size + 1) (scopeAt 54).names []) _ _ _ _ _ = _
   rw [cells54]
   rfl
  rw [e] at X ⊢
  have CE := lawCE s₁.heap.objs.size fa cd
  have eb : ∀ v : Value, bindL (lawEnv s₁.heap.objs.size fa cd).kindOf [(("script" : Str), v)] (fun _ => none) = fun _ => none := fun v => by
   unfold bindL
   rw [if_neg (by rw [CE.kS]; decide)]
   rfl
  have ec : ∀ v : Value, bindC (lawEnv s₁.heap.objs.size fa cd).kindOf [(("script" : Str), v)] (fun _ => none) = fun y => if y = ("script" : Str) then some v else none := fun v => by
   unfold bindC
   rw [if_neg (by rw [CE.kS]; decide)]
   rfl
  rw [eb, ec] at X
  have XI := X.toInCall
  refine law_body a hfh Hh hd hlen (h₀ := s₁.heap) (fun _ _ q => q) ⟨XI.ns, XI.keep, Nat.le_refl _⟩ ?_ ?_ (get_none_of_ge (Nat.le_succ _)) (get_none_of_ge (Nat.le_succ_of_le (Nat.le_succ _))) (Reads.keeps XI.keep rl) (pure_ ns hlen) ?_ PassesOwn.leaving
  ·have := X.cell _ _ CE.cS
   rw [if_pos rfl] at this
   exact this
  ·have := X.cell _ _ CE.cR
   rw [if_neg (by decide)] at this
   exact this
  ·intro s' sm hk
   obtain ⟨h1, t1, e1⟩ := XI.same
   obtain ⟨h2, t2, e2⟩ := sm
   refine GoodW.toG ⟨.inl ⟨_, .bool true, [], rfl, fun cls => ?_, .bool true, post_true _, fun _ => ⟨List.nodup_nil, fun b hb => nomatch hb⟩⟩, hk, ?_, ?_⟩
   ·show (lawRow.raises.any fun ct => ct.1 == cls && ct.2.holds lawRow.records { args := [WData.list (ns.map WData.int)] }) = false
    rw [lawRaises]; rfl
   ·rw [e2, e1]
   ·rw [e2, e1]; exact hgens
 ·kernel_rfl
 ·kernel_rfl
 ·kernel_rfl
end Mine
namespace Mine
open PySem
@[reducible] noncomputable def mkS (l : List Nat) : Str := ⟨l.toArray⟩
noncomputable def pos (T u : List Nat) : Int := (T.length : Int) - u.length
noncomputable def Fit (T : List Nat) : Prop := T.length <= 4000
theorem mkS_inj {a b : List Nat} : (⟨a.toArray⟩ : Str) = ⟨b.toArray⟩ ↔ a = b := by
 rw [Str.mk.injEq]
 exact ⟨fun h => by simpa using congrArg Array.toList h, fun h => by rw [h]⟩
theorem pos1 (T : List Nat) (c : Nat) (r : List Nat) : pos T (c :: r) + 1 = pos T r := by unfold pos; rw [List.length_cons]; lia
theorem pos2 (T : List Nat) (c : Nat) (r : List Nat) : pos T (c :: r) + 2 = pos T r + 1 := by unfold pos; rw [List.length_cons]; lia
theorem pos3 (T : List Nat) (c : Nat) (r : List Nat) : pos T (c :: r) + 3 = pos T r + 2 := by unfold pos; rw [List.length_cons]; lia
theorem pos_self (T : List Nat) : pos T T = 0 := by unfold pos; lia
theorem pos_nil (T : List Nat) : pos T [] = T.length := by unfold pos; rw [List.length_nil]; lia
theorem lt_cons (T : List Nat) (c : Nat) (r : List Nat) : decide (pos T (c :: r) < (T.length : Int)) = true := by unfold pos; rw [List.length_cons, decide_eq_true_eq]; lia
theorem lt_nil (T : List Nat) : decide (pos T [] < (T.length : Int)) = false := by unfold pos; rw [List.length_nil, decide_eq_false_iff_not]; lia
theorem ge_cons (T : List Nat) (c : Nat) (r : List Nat) : decide ((T.length : Int) <= pos T (c :: r)) = false := by unfold pos; rw [List.length_cons, decide_eq_false_iff_not]; lia
theorem ge_nil (T : List Nat) : decide ((T.length : Int) <= pos T []) = true := by unfold pos; rw [List.length_nil, decide_eq_true_eq]; lia
theorem eq_cons (T : List Nat) (c : Nat) (r : List Nat) : decide (pos T (c :: r) = (T.length : Int)) = false := by unfold pos; rw [List.length_cons, decide_eq_false_iff_not]; lia
theorem eq_nil (T : List Nat) : decide (pos T [] = (T.length : Int)) = true := by unfold pos; rw [List.length_nil, decide_eq_true_eq]; lia
theorem pos_eq {T u v : List Nat} : pos T u = pos T v ↔ u.length = v.length := by unfold pos; lia
theorem suf_le {u T : List Nat} (h : u <:+ T) : u.length <= T.length := h.length_le
theorem suf_drop {u T : List Nat} (h : u <:+ T) : T.drop (T.length - u.length) = u := by
 obtain ⟨p, rfl⟩ := h
 rw [List.length_append, Nat.add_sub_cancel, List.drop_left]
theorem pos_nat {u T : List Nat} (h : u <:+ T) : pos T u = ((T.length - u.length : Nat) : Int) := (Int.ofNat_sub (suf_le h)).symm
theorem sub_big {T : List Nat} (hf : Fit T) (n : Nat) : T.length - n <= 4000 := Nat.le_trans (Nat.sub_le _ _) hf
theorem fit_big {T : List Nat} (h : Fit T) : T.length <= big := Nat.le_trans h (by decide)
theorem p_len {T : List Nat} (h : Fit T) : biD .len (.str (mkS T)) = .ok (.int T.length) := by
 show (if (mkS T).cps.size <= big then Rs.ok (PyData.int (mkS T).cps.size) else .stuck) = _
 have : (mkS T).cps.size = T.length := by simp
 rw [this, if_pos (fit_big h)]
theorem p_lenL {l : List Nat} (h : l.length <= 4000) : biD .len (.str ⟨l.toArray⟩) = .ok (.int l.length) := p_len h
theorem idx_str {x : Str} {i : Int} {c : Nat} (hk : okN i = true) (h : x.cps[i.toNat]? = some c) : idxD (.str x) (.int i) = .ok (.str ⟨[c].toArray⟩) := by
 have : strAt x i = some c := by unfold strAt; rw [if_pos hk]; exact h
 show Rs.opt (strAt x i) _ = _
 rw [this]
 rfl
theorem okN_lt {i : Int} (h0 : 0 <= i) (h : i < 2 ^ 62) : okN i = true := by
 unfold okN; rw [decide_eq_true h0, decide_eq_true h]; rfl
theorem okN_nat {n : Nat} (h : n <= 100000) : okN (n : Int) = true := okN_lt (Int.natCast_nonneg n) (Int.lt_of_le_of_lt (Int.ofNat_le.mpr h) (by decide))
theorem p_idx {T : List Nat} {c : Nat} {r : List Nat} (hf : Fit T) (h : (c :: r) <:+ T) : idxD (.str (mkS T)) (.int (pos T (c :: r))) = .ok (.str ⟨[c].toArray⟩) := by
 have h1 := suf_le h
 have h2 := suf_drop h
 have hf : T.length <= 4000 := hf
 rw [pos_nat h]
 refine idx_str (okN_nat (Nat.le_trans (sub_big hf _) (by decide))) ?_
 rw [Int.toNat_natCast]
 have : T[T.length - (c :: r).length]? = some c := by
  rw [<- List.head?_drop, h2]; rfl
 simpa using this
theorem cut_drop (T : List Nat) (i j : Nat) : cutS (mkS T) i j = ⟨((T.drop i).take (j - i)).toArray⟩ := by
 unfold cutS mkS
 congr 1
 simp [List.extract_eq_take_drop]
theorem end_ok {n k : Nat} (h : k <= 100000) : endOf n (some (.int (k : Int))) = .ok k := by
 rw [end_eq, int_eq, rb, if_pos (okN_nat h), Int.toNat_natCast]
theorem sl_eq {x : Str} {lo hi : Option PyData} : sliceD (.str x) lo hi = if x.cps.size <= big then (endOf 0 lo).bind fun i => (endOf x.cps.size hi).bind fun j => .ok (.str (cutS x i j)) else .stuck := rfl
theorem sl_ok {L : List Nat} (hf : Fit L) {i j : Nat} (hi : i <= 100000) (hj : j <= 100000) : sliceD (.str (mkS L)) (some (.int (i : Int))) (some (.int (j : Int))) = .ok (.str ⟨((L.drop i).take (j - i)).toArray⟩) := by
 rw [sl_eq]
 rw [if_pos (show (mkS L).cps.size <= big from fit_big hf), end_ok hi, rb, end_ok hj, rb]
 show Rs.ok (PyData.str (cutS (mkS L) i j)) = _
 rw [cut_drop]
theorem sl_okN {L : List Nat} (hf : Fit L) {j : Nat} (hj : j <= 100000) : sliceD (.str (mkS L)) none (some (.int (j : Int))) = .ok (.str ⟨(L.take j).toArray⟩) := by
 rw [sl_eq]
 rw [if_pos (show (mkS L).cps.size <= big from fit_big hf), end_ok hj]
 show Rs.ok (PyData.str (cutS (mkS L) 0 j)) = _
 rw [cut_drop]; rfl
theorem sl_okF {L : List Nat} (hf : Fit L) {i : Nat} (hi : i <= 100000) : sliceD (.str (mkS L)) (some (.int (i : Int))) none = .ok (.str ⟨(L.drop i).toArray⟩) := by
 rw [sl_eq]
 rw [if_pos (show (mkS L).cps.size <= big from fit_big hf), end_ok hi]
 show Rs.ok (PyData.str (cutS (mkS L) i L.length)) = _
 rw [cut_drop, List.take_of_length_le (by rw [List.length_drop]; exact Nat.le_refl _)]
theorem p_sl {T u : List Nat} (hf : Fit T) (h : u <:+ T) (a b : Nat) (hb : b <= 4000) (ha : a <= 4000) : sliceD (.str (mkS T)) (some (.int (pos T u + a))) (some (.int (pos T u + b))) = .ok (.str ⟨((u.drop a).take (b - a)).toArray⟩) := by
 have h1 : T.length <= 4000 := hf
 rw [pos_nat h, <- Int.natCast_add, <- Int.natCast_add, sl_ok hf (Nat.le_trans (Nat.add_le_add (sub_big hf _) ha) (by decide)) (Nat.le_trans (Nat.add_le_add (sub_big hf _) hb) (by decide)), <- List.drop_drop, suf_drop h, Nat.add_sub_add_left]
theorem p_sl01 {T u : List Nat} (hf : Fit T) (h : u <:+ T) : sliceD (.str (mkS T)) (some (.int (pos T u))) (some (.int (pos T u + 1))) = .ok (.str ⟨(u.take 1).toArray⟩) := by
 have := p_sl hf h 0 1 (by decide) (by decide)
 rwa [show ((0 : Nat) : Int) = 0 from rfl, Int.add_zero, List.drop_zero] at this
theorem p_sl02 {T u : List Nat} (hf : Fit T) (h : u <:+ T) : sliceD (.str (mkS T)) (some (.int (pos T u))) (some (.int (pos T u + 2))) = .ok (.str ⟨(u.take 2).toArray⟩) := by
 have := p_sl hf h 0 2 (by decide) (by decide)
 rwa [show ((0 : Nat) : Int) = 0 from rfl, Int.add_zero, List.drop_zero] at this
theorem p_sl03 {T u : List Nat} (hf : Fit T) (h : u <:+ T) : sliceD (.str (mkS T)) (some (.int (pos T u))) (some (.int (pos T u + 3))) = .ok (.str ⟨(u.take 3).toArray⟩) := by
 have := p_sl hf h 0 3 (by decide) (by decide)
 rwa [show ((0 : Nat) : Int) = 0 from rfl, Int.add_zero, List.drop_zero] at this
theorem p_sl12 {T u : List Nat} (hf : Fit T) (h : u <:+ T) : sliceD (.str (mkS T)) (some (.int (pos T u + 1))) (some (.int (pos T u + 2))) = .ok (.str ⟨((u.drop 1).take 1).toArray⟩) := p_sl hf h 1 2 (by decide) (by decide)
theorem p_sl23 {T u : List Nat} (hf : Fit T) (h : u <:+ T) : sliceD (.str (mkS T)) (some (.int (pos T u + 2))) (some (.int (pos T u + 3))) = .ok (.str ⟨((u.drop 2).take 1).toArray⟩) := p_sl hf h 2 3 (by decide) (by decide)
noncomputable def dif (u r : List Nat) : List Nat := u.take (u.length - r.length)
theorem dif_append (x r : List Nat) : dif (x ++ r) r = x := by
 unfold dif; rw [List.length_append, Nat.add_sub_cancel, List.take_left]
theorem p_slTo {T u r : List Nat} (hf : Fit T) (h : u <:+ T) (hr : r <:+ u) : sliceD (.str (mkS T)) (some (.int (pos T u))) (some (.int (pos T r))) = .ok (.str ⟨(dif u r).toArray⟩) := by
 have hf' : T.length <= 4000 := hf
 have h1 := suf_le h
 have h2 := suf_le hr
 have := p_sl hf h 0 (u.length - r.length) (Nat.le_trans (Nat.sub_le _ _) (Nat.le_trans h1 hf')) (by decide)
 rw [show ((0 : Nat) : Int) = 0 from rfl, Int.add_zero, List.drop_zero] at this
 have e : pos T u + ((u.length - r.length : Nat) : Int) = pos T r := by unfold pos; rw [Int.ofNat_sub h2, <- Int.add_sub_assoc, Int.sub_add_cancel]
 rw [e] at this
 exact this
theorem p_slN {T r : List Nat} (hf : Fit T) (hr : r <:+ T) : sliceD (.str (mkS T)) none (some (.int (pos T r))) = .ok (.str ⟨(dif T r).toArray⟩) := by
 have h1 : T.length <= 4000 := hf
 rw [pos_nat hr, sl_okN hf (by lia)]
 rfl
theorem p_slFrom {T u : List Nat} (hf : Fit T) (h : u <:+ T) : sliceD (.str (mkS T)) (some (.int (pos T u))) none = .ok (.str ⟨u.toArray⟩) := by
 have h1 : T.length <= 4000 := hf
 rw [pos_nat h, sl_okF hf (by lia), suf_drop h]
theorem str_dec (a b : List Nat) : decide ((⟨a.toArray⟩ : Str) = ⟨b.toArray⟩) = (a == b) := by
 rw [Bool.eq_iff_iff, decide_eq_true_iff, beq_iff_eq]
 exact mkS_inj
theorem p_eq (a b : List Nat) : cpD .eq (.str ⟨a.toArray⟩) (.str ⟨b.toArray⟩) = .ok (a == b) := congrArg Rs.ok (str_dec a b)
theorem p_ne (a b : List Nat) : cpD .ne (.str ⟨a.toArray⟩) (.str ⟨b.toArray⟩) = .ok (!(a == b)) := congrArg (fun t => Rs.ok !t) (str_dec a b)
noncomputable def tupS (l : List (List Nat)) : PyData := .tuple (l.map fun x => .str ⟨x.toArray⟩)
theorem strsOf_tup : ∀ l : List (List Nat), strsOf (l.map fun x => PyData.str ⟨x.toArray⟩) = some (l.map fun x => (⟨x.toArray⟩ : Str))
 | [] => rfl
 | x :: l => by rw [List.map_cons, List.map_cons]; unfold strsOf; rw [strsOf_tup l]; rfl
theorem contains_map (a : List Nat) : ∀ l : List (List Nat), (l.map fun x => (⟨x.toArray⟩ : Str)).contains ⟨a.toArray⟩ = l.contains a
 | [] => rfl
 | x :: l => by
  rw [List.map_cons, List.contains_cons, List.contains_cons, contains_map a l]
  congr 1
  by_cases h : a = x
  ·subst h; simp
  ·have : ¬ ((⟨a.toArray⟩ : Str) = ⟨x.toArray⟩) := fun q => h (mkS_inj.mp q)
   rw [beq_eq_false_iff_ne.mpr this, beq_eq_false_iff_ne.mpr h]
theorem p_inT (a : List Nat) (l : List (List Nat)) : inD (.str ⟨a.toArray⟩) (tupS l) = .ok (l.contains a) := by
 show Rs.opt (strsOf (l.map fun x => PyData.str ⟨x.toArray⟩)) _ = _
 rw [strsOf_tup]
 show Rs.ok _ = _
 rw [contains_map]
theorem p_inS (c : Nat) (b : List Nat) : inD (.str ⟨[c].toArray⟩) (.str ⟨b.toArray⟩) = .ok (b.contains c) := rfl
theorem p_cpIn (a b : PyData) : cpD .in_ a b = inD a b := rfl
theorem p_cpNot (a b : PyData) : cpD .notIn a b = (inD a b).bind fun r => .ok !r := rfl
theorem p_cat {a b : List Nat} (h : a.length + b.length <= 100000) : op2 .add (.str ⟨a.toArray⟩) (.str ⟨b.toArray⟩) = .ok (.str ⟨(a ++ b).toArray⟩) := by
 show (if (Str.cps ⟨a.toArray⟩).size + (Str.cps ⟨b.toArray⟩).size <= big then Rs.ok (PyData.str ⟨(Str.cps ⟨a.toArray⟩) ++ (Str.cps ⟨b.toArray⟩)⟩) else .stuck) = _
 rw [if_pos (by simpa using Nat.le_trans h (by decide))]
 congr 2
 simp
theorem cfn_run {K d i m : Nat} {c : Cm} {args : List PyData} (hc : cmOf i = some c) (hp : args.length = parN i) (hl : (localsAt i).length = m) :
  cfn K (d + 1) i args = (exc (cfn K d) K c ⟨args.map some ++ List.replicate (m - args.length) none, none⟩).bind outV := by
 have hf : full i args = some args := by unfold full; rw [if_pos hp]
 rw [cfn_of hc hf]
 unfold startSg
 rw [hl]
theorem par_loc : ∀ x ∈ [(4, 1, 1), (5, 1, 2), (6, 2, 5), (7, 1, 1), (11, 2, 5), (12, 1, 1), (13, 2, 2), (14, 2, 3), (15, 2, 2), (16, 2, 2), (17, 2, 6), (18, 2, 5), (19, 2, 9), (20, 3, 10), (21, 1, 1), (22, 2, 3), (23, 3, 9), (24, 3, 9), (26, 3, 3), (27, 2, 4), (28, 3, 3), (29, 2, 2), (30, 1, 1), (31, 2, 3), (32, 2, 7), (33, 2, 3), (34, 2, 6), (35, 2, 8), (36, 1, 4), (38, 1, 1), (39, 0, 0), (40, 2, 2), (41, 2, 2), (42, 3, 3), (43, 2, 2), (44, 2, 2), (45, 2, 5), (46, 3, 6), (47, 2, 5), (48, 2, 12), (49, 1, 1), (50, 2, 9), (51, 1, 4), (53, 3, 10)], parN x.1 = x.2.1 /\ (localsAt x.1).length = x.2.2 := by decide +kernel
section
variable {K d : Nat}
theorem c4 {a0 : PyData} : cfn K (d + 1) 4 [a0] = (exc (cfn K d) K cm4 ⟨[some a0], none⟩).bind outV := cfn_run (i := 4) (m := 1) (args := [a0]) rfl (show parN 4 = 1 from (par_loc (4, 1, 1) (by decide)).1).symm (par_loc (4, 1, 1) (by decide)).2
theorem c5 {a0 : PyData} : cfn K (d + 1) 5 [a0] = (exc (cfn K d) K cm5 ⟨[some a0, none], none⟩).bind outV := cfn_run (i := 5) (m := 2) (args := [a0]) rfl (show parN 5 = 1 from (par_loc (5, 1, 2) (by decide)).1).symm (par_loc (5, 1, 2) (by decide)).2
theorem c6 {a0 a1 : PyData} : cfn K (d + 1) 6 [a0, a1] = (exc (cfn K d) K cm6 ⟨[some a0, some a1, none, none, none], none⟩).bind outV := cfn_run (i := 6) (m := 5) (args := [a0, a1]) rfl (show parN 6 = 2 from (par_loc (6, 2, 5) (by decide)).1).symm (par_loc (6, 2, 5) (by decide)).2
theorem c7 {a0 : PyData} : cfn K (d + 1) 7 [a0] = (exc (cfn K d) K cm7 ⟨[some a0], none⟩).bind outV := cfn_run (i := 7) (m := 1) (args := [a0]) rfl (show parN 7 = 1 from (par_loc (7, 1, 1) (by decide)).1).symm (par_loc (7, 1, 1) (by decide)).2
theorem c11 {a0 a1 : PyData} : cfn K (d + 1) 11 [a0, a1] = (exc (cfn K d) K cm11 ⟨[some a0, some a1, none, none, none], none⟩).bind outV := cfn_run (i := 11) (m := 5) (args := [a0, a1]) rfl (show parN 11 = 2 from (par_loc (11, 2, 5) (by decide)).1).symm (par_loc (11, 2, 5) (by decide)).2
theorem c12 {a0 : PyData} : cfn K (d + 1) 12 [a0] = (exc (cfn K d) K cm12 ⟨[some a0], none⟩).bind outV := cfn_run (i := 12) (m := 1) (args := [a0]) rfl (show parN 12 = 1 from (par_loc (12, 1, 1) (by decide)).1).symm (par_loc (12, 1, 1) (by decide)).2
theorem c13 {a0 a1 : PyData} : cfn K (d + 1) 13 [a0, a1] = (exc (cfn K d) K cm13 ⟨[some a0, some a1], none⟩).bind outV := cfn_run (i := 13) (m := 2) (args := [a0, a1]) rfl (show parN 13 = 2 from (par_loc (13, 2, 2) (by decide)).1).symm (par_loc (13, 2, 2) (by decide)).2
theorem c14 {a0 a1 : PyData} : cfn K (d + 1) 14 [a0, a1] = (exc (cfn K d) K cm14 ⟨[some a0, some a1, none], none⟩).bind outV := cfn_run (i := 14) (m := 3) (args := [a0, a1]) rfl (show parN 14 = 2 from (par_loc (14, 2, 3) (by decide)).1).symm (par_loc (14, 2, 3) (by decide)).2
theorem c15 {a0 a1 : PyData} : cfn K (d + 1) 15 [a0, a1] = (exc (cfn K d) K cm15 ⟨[some a0, some a1], none⟩).bind outV := cfn_run (i := 15) (m := 2) (args := [a0, a1]) rfl (show parN 15 = 2 from (par_loc (15, 2, 2) (by decide)).1).symm (par_loc (15, 2, 2) (by decide)).2
theorem c16 {a0 a1 : PyData} : cfn K (d + 1) 16 [a0, a1] = (exc (cfn K d) K cm16 ⟨[some a0, some a1], none⟩).bind outV := cfn_run (i := 16) (m := 2) (args := [a0, a1]) rfl (show parN 16 = 2 from (par_loc (16, 2, 2) (by decide)).1).symm (par_loc (16, 2, 2) (by decide)).2
theorem c17 {a0 a1 : PyData} : cfn K (d + 1) 17 [a0, a1] = (exc (cfn K d) K cm17 ⟨[some a0, some a1, none, none, none, none], none⟩).bind outV := cfn_run (i := 17) (m := 6) (args := [a0, a1]) rfl (show parN 17 = 2 from (par_loc (17, 2, 6) (by decide)).1).symm (par_loc (17, 2, 6) (by decide)).2
theorem c18 {a0 a1 : PyData} : cfn K (d + 1) 18 [a0, a1] = (exc (cfn K d) K cm18 ⟨[some a0, some a1, none, none, none], none⟩).bind outV := cfn_run (i := 18) (m := 5) (args := [a0, a1]) rfl (show parN 18 = 2 from (par_loc (18, 2, 5) (by decide)).1).symm (par_loc (18, 2, 5) (by decide)).2
theorem c19 {a0 a1 : PyData} : cfn K (d + 1) 19 [a0, a1] = (exc (cfn K d) K cm19 ⟨[some a0, some a1, none, none, none, none, none, none, none], none⟩).bind outV := cfn_run (i := 19) (m := 9) (args := [a0, a1]) rfl (show parN 19 = 2 from (par_loc (19, 2, 9) (by decide)).1).symm (par_loc (19, 2, 9) (by decide)).2
theorem c20 {a0 a1 a2 : PyData} : cfn K (d + 1) 20 [a0, a1, a2] = (exc (cfn K d) K cm20 ⟨[some a0, some a1, some a2, none, none, none, none, none, none, none], none⟩).bind outV := cfn_run (i := 20) (m := 10) (args := [a0, a1, a2]) rfl (show parN 20 = 3 from (par_loc (20, 3, 10) (by decide)).1).symm (par_loc (20, 3, 10) (by decide)).2
theorem c21 {a0 : PyData} : cfn K (d + 1) 21 [a0] = (exc (cfn K d) K cm21 ⟨[some a0], none⟩).bind outV := cfn_run (i := 21) (m := 1) (args := [a0]) rfl (show parN 21 = 1 from (par_loc (21, 1, 1) (by decide)).1).symm (par_loc (21, 1, 1) (by decide)).2
theorem c22 {a0 a1 : PyData} : cfn K (d + 1) 22 [a0, a1] = (exc (cfn K d) K cm22 ⟨[some a0, some a1, none], none⟩).bind outV := cfn_run (i := 22) (m := 3) (args := [a0, a1]) rfl (show parN 22 = 2 from (par_loc (22, 2, 3) (by decide)).1).symm (par_loc (22, 2, 3) (by decide)).2
theorem c23 {a0 a1 a2 : PyData} : cfn K (d + 1) 23 [a0, a1, a2] = (exc (cfn K d) K cm23 ⟨[some a0, some a1, some a2, none, none, none, none, none, none], none⟩).bind outV := cfn_run (i := 23) (m := 9) (args := [a0, a1, a2]) rfl (show parN 23 = 3 from (par_loc (23, 3, 9) (by decide)).1).symm (par_loc (23, 3, 9) (by decide)).2
theorem c24 {a0 a1 a2 : PyData} : cfn K (d + 1) 24 [a0, a1, a2] = (exc (cfn K d) K cm24 ⟨[some a0, some a1, some a2, none, none, none, none, none, none], none⟩).bind outV := cfn_run (i := 24) (m := 9) (args := [a0, a1, a2]) rfl (show parN 24 = 3 from (par_loc (24, 3, 9) (by decide)).1).symm (par_loc (24, 3, 9) (by decide)).2
theorem c26 {a0 a1 a2 : PyData} : cfn K (d + 1) 26 [a0, a1, a2] = (exc (cfn K d) K cm26 ⟨[some a0, some a1, some a2], none⟩).bind outV := cfn_run (i := 26) (m := 3) (args := [a0, a1, a2]) rfl (show parN 26 = 3 from (par_loc (26, 3, 3) (by decide)).1).symm (par_loc (26, 3, 3) (by decide)).2
theorem c27 {a0 a1 : PyData} : cfn K (d + 1) 27 [a0, a1] = (exc (cfn K d) K cm27 ⟨[some a0, some a1, none, none], none⟩).bind outV := cfn_run (i := 27) (m := 4) (args := [a0, a1]) rfl (show parN 27 = 2 from (par_loc (27, 2, 4) (by decide)).1).symm (par_loc (27, 2, 4) (by decide)).2
theorem c28 {a0 a1 a2 : PyData} : cfn K (d + 1) 28 [a0, a1, a2] = (exc (cfn K d) K cm28 ⟨[some a0, some a1, some a2], none⟩).bind outV := cfn_run (i := 28) (m := 3) (args := [a0, a1, a2]) rfl (show parN 28 = 3 from (par_loc (28, 3, 3) (by decide)).1).symm (par_loc (28, 3, 3) (by decide)).2
theorem c29 {a0 a1 : PyData} : cfn K (d + 1) 29 [a0, a1] = (exc (cfn K d) K cm29 ⟨[some a0, some a1], none⟩).bind outV := cfn_run (i := 29) (m := 2) (args := [a0, a1]) rfl (show parN 29 = 2 from (par_loc (29, 2, 2) (by decide)).1).symm (par_loc (29, 2, 2) (by decide)).2
theorem c30 {a0 : PyData} : cfn K (d + 1) 30 [a0] = (exc (cfn K d) K cm30 ⟨[some a0], none⟩).bind outV := cfn_run (i := 30) (m := 1) (args := [a0]) rfl (show parN 30 = 1 from (par_loc (30, 1, 1) (by decide)).1).symm (par_loc (30, 1, 1) (by decide)).2
theorem c31 {a0 a1 : PyData} : cfn K (d + 1) 31 [a0, a1] = (exc (cfn K d) K cm31 ⟨[some a0, some a1, none], none⟩).bind outV := cfn_run (i := 31) (m := 3) (args := [a0, a1]) rfl (show parN 31 = 2 from (par_loc (31, 2, 3) (by decide)).1).symm (par_loc (31, 2, 3) (by decide)).2
theorem c32 {a0 a1 : PyData} : cfn K (d + 1) 32 [a0, a1] = (exc (cfn K d) K cm32 ⟨[some a0, some a1, none, none, none, none, none], none⟩).bind outV := cfn_run (i := 32) (m := 7) (args := [a0, a1]) rfl (show parN 32 = 2 from (par_loc (32, 2, 7) (by decide)).1).symm (par_loc (32, 2, 7) (by decide)).2
theorem c33 {a0 a1 : PyData} : cfn K (d + 1) 33 [a0, a1] = (exc (cfn K d) K cm33 ⟨[some a0, some a1, none], none⟩).bind outV := cfn_run (i := 33) (m := 3) (args := [a0, a1]) rfl (show parN 33 = 2 from (par_loc (33, 2, 3) (by decide)).1).symm (par_loc (33, 2, 3) (by decide)).2
theorem c34 {a0 a1 : PyData} : cfn K (d + 1) 34 [a0, a1] = (exc (cfn K d) K cm34 ⟨[some a0, some a1, none, none, none, none], none⟩).bind outV := cfn_run (i := 34) (m := 6) (args := [a0, a1]) rfl (show parN 34 = 2 from (par_loc (34, 2, 6) (by decide)).1).symm (par_loc (34, 2, 6) (by decide)).2
theorem c35 {a0 a1 : PyData} : cfn K (d + 1) 35 [a0, a1] = (exc (cfn K d) K cm35 ⟨[some a0, some a1, none, none, none, none, none, none], none⟩).bind outV := cfn_run (i := 35) (m := 8) (args := [a0, a1]) rfl (show parN 35 = 2 from (par_loc (35, 2, 8) (by decide)).1).symm (par_loc (35, 2, 8) (by decide)).2
theorem c36 {a0 : PyData} : cfn K (d + 1) 36 [a0] = (exc (cfn K d) K cm36 ⟨[some a0, none, none, none], none⟩).bind outV := cfn_run (i := 36) (m := 4) (args := [a0]) rfl (show parN 36 = 1 from (par_loc (36, 1, 4) (by decide)).1).symm (par_loc (36, 1, 4) (by decide)).2
theorem c38 {a0 : PyData} : cfn K (d + 1) 38 [a0] = (exc (cfn K d) K cm38 ⟨[some a0], none⟩).bind outV := cfn_run (i := 38) (m := 1) (args := [a0]) rfl (show parN 38 = 1 from (par_loc (38, 1, 1) (by decide)).1).symm (par_loc (38, 1, 1) (by decide)).2
theorem c39 : cfn K (d + 1) 39 [] = (exc (cfn K d) K cm39 ⟨[], none⟩).bind outV := cfn_run (i := 39) (m := 0) (args := []) rfl (show parN 39 = 0 from (par_loc (39, 0, 0) (by decide)).1).symm (par_loc (39, 0, 0) (by decide)).2
theorem c40 {a0 a1 : PyData} : cfn K (d + 1) 40 [a0, a1] = (exc (cfn K d) K cm40 ⟨[some a0, some a1], none⟩).bind outV := cfn_run (i := 40) (m := 2) (args := [a0, a1]) rfl (show parN 40 = 2 from (par_loc (40, 2, 2) (by decide)).1).symm (par_loc (40, 2, 2) (by decide)).2
theorem c41 {a0 a1 : PyData} : cfn K (d + 1) 41 [a0, a1] = (exc (cfn K d) K cm41 ⟨[some a0, some a1], none⟩).bind outV := cfn_run (i := 41) (m := 2) (args := [a0, a1]) rfl (show parN 41 = 2 from (par_loc (41, 2, 2) (by decide)).1).symm (par_loc (41, 2, 2) (by decide)).2
theorem c42 {a0 a1 a2 : PyData} : cfn K (d + 1) 42 [a0, a1, a2] = (exc (cfn K d) K cm42 ⟨[some a0, some a1, some a2], none⟩).bind outV := cfn_run (i := 42) (m := 3) (args := [a0, a1, a2]) rfl (show parN 42 = 3 from (par_loc (42, 3, 3) (by decide)).1).symm (par_loc (42, 3, 3) (by decide)).2
theorem c43 {a0 a1 : PyData} : cfn K (d + 1) 43 [a0, a1] = (exc (cfn K d) K cm43 ⟨[some a0, some a1], none⟩).bind outV := cfn_run (i := 43) (m := 2) (args := [a0, a1]) rfl (show parN 43 = 2 from (par_loc (43, 2, 2) (by decide)).1).symm (par_loc (43, 2, 2) (by decide)).2
theorem c44 {a0 a1 : PyData} : cfn K (d + 1) 44 [a0, a1] = (exc (cfn K d) K cm44 ⟨[some a0, some a1], none⟩).bind outV := cfn_run (i := 44) (m := 2) (args := [a0, a1]) rfl (show parN 44 = 2 from (par_loc (44, 2, 2) (by decide)).1).symm (par_loc (44, 2, 2) (by decide)).2
theorem c45 {a0 a1 : PyData} : cfn K (d + 1) 45 [a0, a1] = (exc (cfn K d) K cm45 ⟨[some a0, some a1, none, none, none], none⟩).bind outV := cfn_run (i := 45) (m := 5) (args := [a0, a1]) rfl (show parN 45 = 2 from (par_loc (45, 2, 5) (by decide)).1).symm (par_loc (45, 2, 5) (by decide)).2
theorem c46 {a0 a1 a2 : PyData} : cfn K (d + 1) 46 [a0, a1, a2] = (exc (cfn K d) K cm46 ⟨[some a0, some a1, some a2, none, none, none], none⟩).bind outV := cfn_run (i := 46) (m := 6) (args := [a0, a1, a2]) rfl (show parN 46 = 3 from (par_loc (46, 3, 6) (by decide)).1).symm (par_loc (46, 3, 6) (by decide)).2
theorem c47 {a0 a1 : PyData} : cfn K (d + 1) 47 [a0, a1] = (exc (cfn K d) K cm47 ⟨[some a0, some a1, none, none, none], none⟩).bind outV := cfn_run (i := 47) (m := 5) (args := [a0, a1]) rfl (show parN 47 = 2 from (par_loc (47, 2, 5) (by decide)).1).symm (par_loc (47, 2, 5) (by decide)).2
theorem c48 {a0 a1 : PyData} : cfn K (d + 1) 48 [a0, a1] = (exc (cfn K d) K cm48 ⟨[some a0, some a1, none, none, none, none, none, none, none, none, none, none], none⟩).bind outV := cfn_run (i := 48) (m := 12) (args := [a0, a1]) rfl (show parN 48 = 2 from (par_loc (48, 2, 12) (by decide)).1).symm (par_loc (48, 2, 12) (by decide)).2
theorem c49 {a0 : PyData} : cfn K (d + 1) 49 [a0] = (exc (cfn K d) K cm49 ⟨[some a0], none⟩).bind outV := cfn_run (i := 49) (m := 1) (args := [a0]) rfl (show parN 49 = 1 from (par_loc (49, 1, 1) (by decide)).1).symm (par_loc (49, 1, 1) (by decide)).2
theorem c50 {a0 a1 : PyData} : cfn K (d + 1) 50 [a0, a1] = (exc (cfn K d) K cm50 ⟨[some a0, some a1, none, none, none, none, none, none, none], none⟩).bind outV := cfn_run (i := 50) (m := 9) (args := [a0, a1]) rfl (show parN 50 = 2 from (par_loc (50, 2, 9) (by decide)).1).symm (par_loc (50, 2, 9) (by decide)).2
theorem c51 {a0 : PyData} : cfn K (d + 1) 51 [a0] = (exc (cfn K d) K cm51 ⟨[some a0, none, none, none], none⟩).bind outV := cfn_run (i := 51) (m := 4) (args := [a0]) rfl (show parN 51 = 1 from (par_loc (51, 1, 4) (by decide)).1).symm (par_loc (51, 1, 4) (by decide)).2
theorem c53 {a0 a1 a2 : PyData} : cfn K (d + 1) 53 [a0, a1, a2] = (exc (cfn K d) K cm53 ⟨[some a0, some a1, some a2, none, none, none, none, none, none, none], none⟩).bind outV := cfn_run (i := 53) (m := 10) (args := [a0, a1, a2]) rfl (show parN 53 = 3 from (par_loc (53, 3, 10) (by decide)).1).symm (par_loc (53, 3, 10) (by decide)).2
end
theorem q_le (a b : Int) : cpD .le (.int a) (.int b) = .ok (decide (a <= b)) := rfl
theorem q_lt (a b : Int) : cpD .lt (.int a) (.int b) = .ok (decide (a < b)) := rfl
theorem q_gt (a b : Int) : cpD .gt (.int a) (.int b) = .ok (decide (b < a)) := rfl
theorem q_ge (a b : Int) : cpD .ge (.int a) (.int b) = .ok (decide (b <= a)) := rfl
theorem q_eqI (a b : Int) : cpD .eq (.int a) (.int b) = .ok (decide (a = b)) := rfl
theorem q_neI (a b : Int) : cpD .ne (.int a) (.int b) = .ok (!decide (a = b)) := rfl
theorem q_add (a b : Int) : op2 .add (.int a) (.int b) = .ok (.int (a + b)) := rfl
theorem q_sub (a b : Int) : op2 .sub (.int a) (.int b) = .ok (.int (a - b)) := rfl
theorem q_ord (c : Nat) : biD .ord (.str ⟨[c].toArray⟩) = .ok (.int c) := rfl
section
variable {K d : Nat}
theorem f4 (c : Nat) : cfn K (d + 1) 4 [.str ⟨[c].toArray⟩] = .ok (.d (.bool ([[32], [9], [10], [11], [12], [13]].contains [c]))) := by
 rw [c4]
 show (((inD (.str ⟨[c].toArray⟩) (tupS [[32], [9], [10], [11], [12], [13]])).bind fun r => Rs.ok (V.d (.bool r))).bind fun v => Rs.ok (Out.ret v)).bind outV = _
 rw [p_inT]
 rfl
noncomputable def dg (c : Nat) : Int := if 48 <= (c : Int) /\ (c : Int) <= 57 then (c : Int) - 48 else if 97 <= (c : Int) /\ (c : Int) <= 122 then (c : Int) - 87 else if 65 <= (c : Int) /\ (c : Int) <= 90 then (c : Int) - 55 else -1
theorem cmp2_le {cf : Cfn} {σ : Sg} {a b : Int} {n : Int} {i : Nat} (h : σ.get i = .ok (.d (.int n))) : ev cf σ (.cmp2 .le .le (.int a) (.v i) (.int b)) = .ok (.d (.bool (decide (a <= n /\ n <= b)))) := by
 show ((σ.get i).bind fun y => y.dat.bind fun y => (cpD .le (.int a) y).bind fun r => if r then ((cpD .le y (.int b)).bind fun r => Rs.ok (V.d (.bool r))) else Rs.ok (V.d (.bool false))) = _
 rw [h]
 show (if decide (a <= n) then Rs.ok (V.d (.bool (decide (n <= b)))) else Rs.ok (V.d (.bool false))) = _
 by_cases h : a <= n <;> simp [h]
theorem x_ite {cf : Cfn} {c : Ex} {a b : Cm} {σ : Sg} {t : Prop} [Decidable t] (h : ev cf σ c = .ok (.d (.bool (decide t)))) : exc cf K (.ite c a b) σ = if t then exc cf K a σ else exc cf K b σ := by
 show ((ev cf σ c).bind fun x => (boolOf x).bind fun t => if t then exc cf K a σ else exc cf K b σ) = _
 rw [h]
 by_cases ht : t <;> simp [ht, Rs.bind, boolOf]
theorem x_guard {cf : Cfn} {c : Ex} {a b : Cm} {σ : Sg} {t : Prop} [Decidable t] {v : V} (h : ev cf σ c = .ok (.d (.bool (decide t)))) (ha : exc cf K a σ = .ok (.ret v)) : exc cf K (.seq (.ite c a .skip) b) σ = if t then .ok (.ret v) else exc cf K b σ := by
 show (exc cf K (.ite c a .skip) σ).bind _ = _
 rw [x_ite h]
 by_cases ht : t
 ·rw [if_pos ht, if_pos ht, ha]; rfl
 ·rw [if_neg ht, if_neg ht]; rfl
theorem f5 (c : Nat) : cfn K (d + 1) 5 [.str ⟨[c].toArray⟩] = .ok (.d (.int (dg c))) := by
 rw [c5]
 have e : exc (cfn K d) K cm5 ⟨[some (.str ⟨[c].toArray⟩), none], none⟩ = .ok (.ret (.d (.int (dg c)))) := by
  show exc (cfn K d) K (.seq (.ite (.cmp2 .le .le (.int 48) (.v 1) (.int 57)) (.ret (.bin .sub (.v 1) (.int 48))) .skip) _) ⟨[some (.str ⟨[c].toArray⟩), some (.int c)], none⟩ = _
  rw [x_guard (cmp2_le rfl) (v := .d (.int ((c : Int) - 48))) rfl, x_guard (cmp2_le rfl) (v := .d (.int ((c : Int) - 87))) rfl, x_guard (cmp2_le rfl) (v := .d (.int ((c : Int) - 55))) rfl]
  unfold dg
  repeat' (split; · rfl)
  rfl
 rw [e]
 rfl
end
section
variable {K : Nat} {cf : Cfn} {σ σ' : Sg} {T : List Nat}
theorem x_seq {a b : Cm} (h : exc cf K a σ = .ok (.next σ')) : exc cf K (.seq a b) σ = exc cf K b σ' := by
 show (exc cf K a σ).bind _ = _
 rw [h]; rfl
theorem x_seqR {a b : Cm} {v : V} (h : exc cf K a σ = .ok (.ret v)) : exc cf K (.seq a b) σ = .ok (.ret v) := by
 show (exc cf K a σ).bind _ = _
 rw [h]; rfl
theorem x_seqB {a b : Cm} (h : exc cf K a σ = .ok (.brk σ')) : exc cf K (.seq a b) σ = .ok (.brk σ') := by
 show (exc cf K a σ).bind _ = _
 rw [h]; rfl
theorem x_seqE {a b : Cm} {x : Xc} (h : exc cf K a σ = .exc x) : exc cf K (.seq a b) σ = .exc x := by
 show (exc cf K a σ).bind _ = _
 rw [h]; rfl
theorem x_set {i : Nat} {e : Ex} {x : PyData} (h : ev cf σ e = .ok (.d x)) : exc cf K (.set i e) σ = .ok (.next (σ.put i x)) := by
 show (ev cf σ e).bind _ = _
 rw [h]; rfl
theorem x_setE {i : Nat} {e : Ex} {x : Xc} (h : ev cf σ e = .exc x) : exc cf K (.set i e) σ = .exc x := by
 show (ev cf σ e).bind _ = _
 rw [h]; rfl
theorem x_setT {is : List Nat} {e : Ex} {xs : List PyData} (h : ev cf σ e = .ok (.d (.tuple xs))) (hp : σ.puts is xs = some σ') : exc cf K (.setT is e) σ = .ok (.next σ') := by
 show (ev cf σ e).bind _ = _
 rw [h]
 show Rs.opt (σ.puts is xs) _ = _
 rw [hp]; rfl
theorem x_setTE {is : List Nat} {e : Ex} {x : Xc} (h : ev cf σ e = .exc x) : exc cf K (.setT is e) σ = .exc x := by
 show (ev cf σ e).bind _ = _
 rw [h]; rfl
theorem x_ret {e : Ex} {v : V} (h : ev cf σ e = .ok v) : exc cf K (.ret e) σ = .ok (.ret v) := by
 show (ev cf σ e).bind _ = _
 rw [h]; rfl
theorem x_raise {e : Ex} {x : Xc} (h : ev cf σ e = .ok (.exc x)) : exc cf K (.raise e) σ = .exc x := by
 show (ev cf σ e).bind _ = _
 rw [h]; rfl
theorem x_iteT {c : Ex} {a b : Cm} {t : Bool} (h : ev cf σ c = .ok (.d (.bool t))) (ht : t = true) : exc cf K (.ite c a b) σ = exc cf K a σ := by
 show ((ev cf σ c).bind fun x => (boolOf x).bind fun t => if t then exc cf K a σ else exc cf K b σ) = _
 rw [h, ht]; rfl
theorem x_iteF {c : Ex} {a b : Cm} {t : Bool} (h : ev cf σ c = .ok (.d (.bool t))) (ht : t = false) : exc cf K (.ite c a b) σ = exc cf K b σ := by
 show ((ev cf σ c).bind fun x => (boolOf x).bind fun t => if t then exc cf K a σ else exc cf K b σ) = _
 rw [h, ht]; rfl
theorem x_pass {c : Ex} {a b : Cm} {t : Bool} (h : ev cf σ c = .ok (.d (.bool t))) (ht : t = false) : exc cf K (.seq (.ite c a .skip) b) σ = exc cf K b σ := x_seq (x_iteF h ht)
theorem x_take {c : Ex} {a b : Cm} {t : Bool} {v : V} (h : ev cf σ c = .ok (.d (.bool t))) (ht : t = true) (ha : exc cf K a σ = .ok (.ret v)) : exc cf K (.seq (.ite c a .skip) b) σ = .ok (.ret v) := x_seqR ((x_iteT h ht).trans ha)
theorem x_takeE {c : Ex} {a b : Cm} {t : Bool} {x : Xc} (h : ev cf σ c = .ok (.d (.bool t))) (ht : t = true) (ha : exc cf K a σ = .exc x) : exc cf K (.seq (.ite c a .skip) b) σ = .exc x := x_seqE ((x_iteT h ht).trans ha)
theorem s_seq {a b : Cm} {r : Rs Out} (h : exc cf K a σ = .ok (.next σ')) (k : exc cf K b σ' = r) : exc cf K (.seq a b) σ = r := (x_seq h).trans k
theorem s_set {i : Nat} {e : Ex} {b : Cm} {x : PyData} {r : Rs Out} (h : ev cf σ e = .ok (.d x)) (k : exc cf K b (σ.put i x) = r) : exc cf K (.seq (.set i e) b) σ = r := (x_seq (x_set h)).trans k
theorem s_setT {is : List Nat} {e : Ex} {b : Cm} {xs : List PyData} {r : Rs Out} (h : ev cf σ e = .ok (.d (.tuple xs))) (hp : σ.puts is xs = some σ') (k : exc cf K b σ' = r) : exc cf K (.seq (.setT is e) b) σ = r := (x_seq (x_setT h hp)).trans k
theorem s_T {c : Ex} {a b : Cm} {t : Bool} {r : Rs Out} (h : ev cf σ c = .ok (.d (.bool t))) (ht : t = true) (k : exc cf K a σ = r) : exc cf K (.ite c a b) σ = r := (x_iteT h ht).trans k
theorem s_F {c : Ex} {a b : Cm} {t : Bool} {r : Rs Out} (h : ev cf σ c = .ok (.d (.bool t))) (ht : t = false) (k : exc cf K b σ = r) : exc cf K (.ite c a b) σ = r := (x_iteF h ht).trans k
theorem s_pass {c : Ex} {a b : Cm} {t : Bool} {r : Rs Out} (h : ev cf σ c = .ok (.d (.bool t))) (ht : t = false) (k : exc cf K b σ = r) : exc cf K (.seq (.ite c a .skip) b) σ = r := (x_pass h ht).trans k
theorem s_wh {c : Ex} {b rest : Cm} {r : Rs Out} (h : loopW (fun σ => (ev cf σ c).bind boolOf) (exc cf K b) K σ = .ok (.next σ')) (k : exc cf K rest σ' = r) : exc cf K (.seq (.wh c b) rest) σ = r := s_seq (a := .wh c b) h k
theorem x_wh {c : Ex} {b : Cm} : exc cf K (.wh c b) σ = loopW (fun σ => (ev cf σ c).bind boolOf) (exc cf K b) K σ := rfl
noncomputable abbrev Lp (cf : Cfn) (K : Nat) (c : Ex) (b : Cm) (k : Nat) (σ : Sg) : Rs Out := loopW (fun σ => (ev cf σ c).bind boolOf) (exc cf K b) k σ
noncomputable def EndN (o : Rs Out) (σ : Sg) (x : V) : Prop := o = .ok (.next σ) \/ o = .ok (.ret x)
theorem EndN.step {o o' : Rs Out} {x : V} (h : o = o') (r : EndN o' σ x) : EndN o σ x := by rw [h]; exact r
noncomputable abbrev S2 (T u : List Nat) : Sg := ⟨[some (.str (mkS T)), some (.int (pos T u))], none⟩
noncomputable def tl : Cm -> Cm
 | .seq _ b => b
 | c => c
noncomputable def G (cf : Cfn) (K : Nat) (b : Cm) (σ : Sg) (R : Rs V) : Prop := (exc cf K b σ).bind outV = R
theorem G.of {b : Cm} {R : Rs V} {x : Rs Out} (h : exc cf K b σ = x) (k : x.bind outV = R) : G cf K b σ R := by unfold G; rw [h]; exact k
theorem G.seq {a b : Cm} {R : Rs V} (h : exc cf K a σ = .ok (.next σ')) (k : G cf K b σ' R) : G cf K (.seq a b) σ R := by unfold G; rw [x_seq h]; exact k
theorem G.pass {a b : Cm} {c : Ex} {t : Bool} {R : Rs V} (h : ev cf σ c = .ok (.d (.bool t))) (ht : ¬t = true) (k : G cf K b σ R) : G cf K (.seq (.ite c a .skip) b) σ R := by unfold G; rw [x_pass h (Bool.eq_false_iff.mpr ht)]; exact k
section
variable {c : Ex} {body : Sg -> Rs Out} {k : Nat}
theorem w_stop {t : Bool} (h : ev cf σ c = .ok (.d (.bool t))) (ht : t = false) : loopW (fun σ => (ev cf σ c).bind boolOf) body (k + 1) σ = .ok (.next σ) := by
 show ((ev cf σ c).bind boolOf).bind _ = _
 rw [h, ht]; rfl
theorem w_next {t : Bool} (h : ev cf σ c = .ok (.d (.bool t))) (ht : t = true) (hb : body σ = .ok (.next σ')) : loopW (fun σ => (ev cf σ c).bind boolOf) body (k + 1) σ = loopW (fun σ => (ev cf σ c).bind boolOf) body k σ' := by
 show ((ev cf σ c).bind boolOf).bind _ = _
 rw [h, ht]
 show (body σ).bind _ = _
 rw [hb]; rfl
theorem w_cont {t : Bool} (h : ev cf σ c = .ok (.d (.bool t))) (ht : t = true) (hb : body σ = .ok (.cont σ')) : loopW (fun σ => (ev cf σ c).bind boolOf) body (k + 1) σ = loopW (fun σ => (ev cf σ c).bind boolOf) body k σ' := by
 show ((ev cf σ c).bind boolOf).bind _ = _
 rw [h, ht]
 show (body σ).bind _ = _
 rw [hb]; rfl
theorem w_brk {t : Bool} (h : ev cf σ c = .ok (.d (.bool t))) (ht : t = true) (hb : body σ = .ok (.brk σ')) : loopW (fun σ => (ev cf σ c).bind boolOf) body (k + 1) σ = .ok (.next σ') := by
 show ((ev cf σ c).bind boolOf).bind _ = _
 rw [h, ht]
 show (body σ).bind _ = _
 rw [hb]; rfl
theorem w_ret {t : Bool} {v : V} (h : ev cf σ c = .ok (.d (.bool t))) (ht : t = true) (hb : body σ = .ok (.ret v)) : loopW (fun σ => (ev cf σ c).bind boolOf) body (k + 1) σ = .ok (.ret v) := by
 show ((ev cf σ c).bind boolOf).bind _ = _
 rw [h, ht]
 show (body σ).bind _ = _
 rw [hb]; rfl
theorem w_exc {t : Bool} {x : Xc} (h : ev cf σ c = .ok (.d (.bool t))) (ht : t = true) (hb : body σ = .exc x) : loopW (fun σ => (ev cf σ c).bind boolOf) body (k + 1) σ = .exc x := by
 show ((ev cf σ c).bind boolOf).bind _ = _
 rw [h, ht]
 show (body σ).bind _ = _
 rw [hb]; rfl
end
theorem e_v {i : Nat} {x : PyData} (h : σ.env[i]? = some (some x)) : ev cf σ (.v i) = .ok (.d x) := by
 show Rs.opt σ.env[i]? _ = _
 rw [h]; rfl
theorem e_len {a : Ex} (hf : Fit T) (h : ev cf σ a = .ok (.d (.str ⟨T.toArray⟩))) : ev cf σ (.bi .len a) = .ok (.d (.int T.length)) := by
 show (ev cf σ a).bind _ = _
 rw [h]
 show (biD .len (.str (mkS T))).bind _ = _
 rw [p_len hf]; rfl
theorem e_lt {a b : Ex} {x y : Int} (ha : ev cf σ a = .ok (.d (.int x))) (hb : ev cf σ b = .ok (.d (.int y))) : ev cf σ (.cmp .lt a b) = .ok (.d (.bool (decide (x < y)))) := e_cp ha hb rfl
theorem e_ge {a b : Ex} {x y : Int} (ha : ev cf σ a = .ok (.d (.int x))) (hb : ev cf σ b = .ok (.d (.int y))) : ev cf σ (.cmp .ge a b) = .ok (.d (.bool (decide (y <= x)))) := e_cp ha hb rfl
theorem e_gt {a b : Ex} {x y : Int} (ha : ev cf σ a = .ok (.d (.int x))) (hb : ev cf σ b = .ok (.d (.int y))) : ev cf σ (.cmp .gt a b) = .ok (.d (.bool (decide (y < x)))) := e_cp ha hb rfl
theorem e_eqI {a b : Ex} {x y : Int} (ha : ev cf σ a = .ok (.d (.int x))) (hb : ev cf σ b = .ok (.d (.int y))) : ev cf σ (.cmp .eq a b) = .ok (.d (.bool (decide (x = y)))) := e_cp ha hb rfl
theorem e_add {a b : Ex} {x y : Int} (ha : ev cf σ a = .ok (.d (.int x))) (hb : ev cf σ b = .ok (.d (.int y))) : ev cf σ (.bin .add a b) = .ok (.d (.int (x + y))) := e_op2 ha hb rfl
theorem e_sub {a b : Ex} {x y : Int} (ha : ev cf σ a = .ok (.d (.int x))) (hb : ev cf σ b = .ok (.d (.int y))) : ev cf σ (.bin .sub a b) = .ok (.d (.int (x - y))) := e_op2 ha hb rfl
theorem e_cat {a b : Ex} {x y : List Nat} (ha : ev cf σ a = .ok (.d (.str ⟨x.toArray⟩))) (hb : ev cf σ b = .ok (.d (.str ⟨y.toArray⟩))) (hl : x.length + y.length <= 100000) : ev cf σ (.bin .add a b) = .ok (.d (.str ⟨(x ++ y).toArray⟩)) := e_op2 ha hb (p_cat hl)
theorem e_eqS {a b : Ex} {x y : List Nat} (ha : ev cf σ a = .ok (.d (.str ⟨x.toArray⟩))) (hb : ev cf σ b = .ok (.d (.str ⟨y.toArray⟩))) : ev cf σ (.cmp .eq a b) = .ok (.d (.bool (x == y))) := e_cp ha hb (p_eq _ _)
theorem e_neS {a b : Ex} {x y : List Nat} (ha : ev cf σ a = .ok (.d (.str ⟨x.toArray⟩))) (hb : ev cf σ b = .ok (.d (.str ⟨y.toArray⟩))) : ev cf σ (.cmp .ne a b) = .ok (.d (.bool (!(x == y)))) := e_cp ha hb (p_ne _ _)
theorem e_inT {a b : Ex} {x : List Nat} (l : List (List Nat)) (ha : ev cf σ a = .ok (.d (.str ⟨x.toArray⟩))) (hb : ev cf σ b = .ok (.d (tupS l))) : ev cf σ (.cmp .in_ a b) = .ok (.d (.bool (l.contains x))) := e_cp ha hb ((p_cpIn _ _).trans (p_inT _ _))
theorem e_niT {a b : Ex} {x : List Nat} (l : List (List Nat)) (ha : ev cf σ a = .ok (.d (.str ⟨x.toArray⟩))) (hb : ev cf σ b = .ok (.d (tupS l))) : ev cf σ (.cmp .notIn a b) = .ok (.d (.bool (!l.contains x))) := e_cp ha hb (by rw [p_cpNot, p_inT]; rfl)
theorem e_inS {a b : Ex} {c : Nat} {y : List Nat} (ha : ev cf σ a = .ok (.d (.str ⟨[c].toArray⟩))) (hb : ev cf σ b = .ok (.d (.str ⟨y.toArray⟩))) : ev cf σ (.cmp .in_ a b) = .ok (.d (.bool (y.contains c))) := e_cp ha hb rfl
theorem e_niS {a b : Ex} {c : Nat} {y : List Nat} (ha : ev cf σ a = .ok (.d (.str ⟨[c].toArray⟩))) (hb : ev cf σ b = .ok (.d (.str ⟨y.toArray⟩))) : ev cf σ (.cmp .notIn a b) = .ok (.d (.bool (!y.contains c))) := e_cp ha hb rfl
theorem e_idx {a b : Ex} {c : Nat} {r : List Nat} (hf : Fit T) (hs : (c :: r) <:+ T) (ha : ev cf σ a = .ok (.d (.str ⟨T.toArray⟩))) (hb : ev cf σ b = .ok (.d (.int (pos T (c :: r))))) : ev cf σ (.idx a b) = .ok (.d (.str ⟨[c].toArray⟩)) := e_ix ha hb (p_idx hf hs)
theorem e_slc {a b c : Ex} {x y : Int} {z : List Nat} (h : sliceD (.str (mkS T)) (some (.int x)) (some (.int y)) = .ok (.str ⟨z.toArray⟩)) (ha : ev cf σ a = .ok (.d (.str ⟨T.toArray⟩))) (hb : ev cf σ b = .ok (.d (.int x))) (hc : ev cf σ c = .ok (.d (.int y))) : ev cf σ (.slSS a b c) = .ok (.d (.str ⟨z.toArray⟩)) := by
 show (ev cf σ a).bind _ = _
 rw [ha]
 show (ev cf σ b).bind _ = _
 rw [hb]
 show (ev cf σ c).bind _ = _
 rw [hc]
 show (sliceD (.str (mkS T)) _ _).bind _ = _
 rw [h]; rfl
theorem e_and2 {a b : Ex} {s t : Bool} (ha : ev cf σ a = .ok (.d (.bool s))) (hb : s = true -> ev cf σ b = .ok (.d (.bool t))) : ev cf σ (.and (.cons a (.cons b .nil))) = .ok (.d (.bool (s && t))) := by
 show ((ev cf σ a).bind _).bind _ = _
 rw [ha]
 cases s
 ·rfl
 ·show (((ev cf σ b).bind _)).bind _ = _
  rw [hb rfl]
  cases t <;> rfl
theorem e_and3 {a b c : Ex} {s t u : Bool} (ha : ev cf σ a = .ok (.d (.bool s))) (hb : s = true -> ev cf σ b = .ok (.d (.bool t))) (hc : s = true -> t = true -> ev cf σ c = .ok (.d (.bool u))) : ev cf σ (.and (.cons a (.cons b (.cons c .nil)))) = .ok (.d (.bool (s && (t && u)))) := by
 show ((ev cf σ a).bind _).bind _ = _
 rw [ha]
 cases s
 ·rfl
 ·show (((ev cf σ b).bind _)).bind _ = _
  rw [hb rfl]
  cases t
  ·rfl
  ·show (((ev cf σ c).bind _)).bind _ = _
   rw [hc rfl rfl]
   cases u <;> rfl
theorem e_or2 {a b : Ex} {s t : Bool} (ha : ev cf σ a = .ok (.d (.bool s))) (hb : s = false -> ev cf σ b = .ok (.d (.bool t))) : ev cf σ (.or (.cons a (.cons b .nil))) = .ok (.d (.bool (s || t))) := by
 show ((ev cf σ a).bind _).bind _ = _
 rw [ha]
 cases s
 ·show (((ev cf σ b).bind _)).bind _ = _
  rw [hb rfl]
  cases t <;> rfl
 ·rfl
theorem e_not {a : Ex} {s : Bool} (ha : ev cf σ a = .ok (.d (.bool s))) : ev cf σ (.not a) = .ok (.d (.bool (!s))) := by
 show (ev cf σ a).bind _ = _
 rw [ha]; rfl
theorem e_call1 {f : Nat} {a : Ex} {x : PyData} {r : Rs V} (ha : ev cf σ a = .ok (.d x)) (h : cf f [x] = r) : ev cf σ (.call f (.cons a .nil)) = r := by
 show ((ev cf σ a).bind _).bind _ = _
 rw [ha]
 exact h
theorem e_call2 {f : Nat} {a b : Ex} {x y : PyData} {r : Rs V} (ha : ev cf σ a = .ok (.d x)) (hb : ev cf σ b = .ok (.d y)) (h : cf f [x, y] = r) : ev cf σ (.call f (.cons a (.cons b .nil))) = r := by
 show ((ev cf σ a).bind _).bind _ = _
 rw [ha]
 show (((ev cf σ b).bind _).bind _).bind _ = _
 rw [hb]
 exact h
theorem e_call3 {f : Nat} {a b c : Ex} {x y z : PyData} {r : Rs V} (ha : ev cf σ a = .ok (.d x)) (hb : ev cf σ b = .ok (.d y)) (hc : ev cf σ c = .ok (.d z)) (h : cf f [x, y, z] = r) : ev cf σ (.call f (.cons a (.cons b (.cons c .nil)))) = r := by
 show ((ev cf σ a).bind _).bind _ = _
 rw [ha]
 show (((ev cf σ b).bind _).bind _).bind _ = _
 rw [hb]
 show ((((ev cf σ c).bind _).bind _).bind _).bind _ = _
 rw [hc]
 exact h
theorem e_tup2 {a b : Ex} {x y : PyData} (ha : ev cf σ a = .ok (.d x)) (hb : ev cf σ b = .ok (.d y)) : ev cf σ (.tup (.cons a (.cons b .nil))) = .ok (.d (.tuple [x, y])) := by
 show ((ev cf σ a).bind _).bind _ = _
 rw [ha]
 show (((ev cf σ b).bind _).bind _).bind _ = _
 rw [hb]; rfl
theorem e_tup3 {a b c : Ex} {x y z : PyData} (ha : ev cf σ a = .ok (.d x)) (hb : ev cf σ b = .ok (.d y)) (hc : ev cf σ c = .ok (.d z)) : ev cf σ (.tup (.cons a (.cons b (.cons c .nil)))) = .ok (.d (.tuple [x, y, z])) := by
 show ((ev cf σ a).bind _).bind _ = _
 rw [ha]
 show (((ev cf σ b).bind _).bind _).bind _ = _
 rw [hb]
 show ((((ev cf σ c).bind _).bind _).bind _).bind _ = _
 rw [hc]; rfl
theorem e_tup4 {a b c e : Ex} {x y z w : PyData} (ha : ev cf σ a = .ok (.d x)) (hb : ev cf σ b = .ok (.d y)) (hc : ev cf σ c = .ok (.d z)) (he : ev cf σ e = .ok (.d w)) : ev cf σ (.tup (.cons a (.cons b (.cons c (.cons e .nil))))) = .ok (.d (.tuple [x, y, z, w])) := by
 show ((ev cf σ a).bind _).bind _ = _
 rw [ha]
 show (((ev cf σ b).bind _).bind _).bind _ = _
 rw [hb]
 show ((((ev cf σ c).bind _).bind _).bind _).bind _ = _
 rw [hc]
 show (((((ev cf σ e).bind _).bind _).bind _).bind _).bind _ = _
 rw [he]; rfl
theorem x_aug {i : Nat} {e : Ex} {x y : Int} (hx : σ.get i = .ok (.d (.int x))) (h : ev cf σ e = .ok (.d (.int y))) : exc cf K (.aug i .add e) σ = .ok (.next (σ.put i (.int (x + y)))) := by
 show (σ.get i).bind _ = _
 rw [hx]
 show (ev cf σ e).bind _ = _
 rw [h]; rfl
theorem x_augZ {i : Nat} {e : Ex} {x y z : Int} (hx : σ.get i = .ok (.d (.int x))) (h : ev cf σ e = .ok (.d (.int y))) (hz : x + y = z) : exc cf K (.aug i .add e) σ = .ok (.next (σ.put i (.int z))) := by
 rw [x_aug hx h, hz]
theorem x_setZ {i : Nat} {e : Ex} {x y : PyData} (h : ev cf σ e = .ok (.d x)) (hz : x = y) : exc cf K (.set i e) σ = .ok (.next (σ.put i y)) := by
 rw [x_set h, hz]
theorem e_addZ {a b : Ex} {x y z : Int} (ha : ev cf σ a = .ok (.d (.int x))) (hb : ev cf σ b = .ok (.d (.int y))) (hz : x + y = z) : ev cf σ (.bin .add a b) = .ok (.d (.int z)) := by
 rw [e_add ha hb, hz]
theorem x_augS {i : Nat} {e : Ex} {x y : List Nat} (hx : σ.get i = .ok (.d (.str ⟨x.toArray⟩))) (h : ev cf σ e = .ok (.d (.str ⟨y.toArray⟩))) (hl : x.length + y.length <= 100000) : exc cf K (.aug i .add e) σ = .ok (.next (σ.put i (.str ⟨(x ++ y).toArray⟩))) := by
 show (σ.get i).bind _ = _
 rw [hx]
 show (ev cf σ e).bind _ = _
 rw [h]
 show (op2 _ _ _).bind _ = _
 rw [p_cat hl]; rfl
theorem x_push {e : Ex} {xs : List PyData} {x : PyData} (ho : σ.own = some xs) (h : ev cf σ e = .ok (.d x)) (hl : xs.length <= 100000) : exc cf K (.push e) σ = .ok (.next ⟨σ.env, some (xs ++ [x])⟩) := by
 show Rs.opt σ.own _ = _
 rw [ho]
 show (ev cf σ e).bind _ = _
 rw [h]
 show (if xs.length < big then _ else _) = _
 rw [if_pos (Nat.lt_of_le_of_lt hl (by decide))]
end
noncomputable def okc (c : Nat) : Bool := decide (c < 128) && !([11, 12, 13].contains c)
noncomputable def bsl (c : Nat) (r : List Nat) : Bool := c != 92 || (match r with | d :: _ => d == 10 || d == 125 || d == 34 || d == 36 | [] => false)
noncomputable def brk (c : Nat) (r : List Nat) : Bool := c != 91 || r.take 1 == [93] || r.take 4 == [102, 32, 49, 93]
noncomputable def gd : List Nat -> Bool
 | [] => true
 | c :: r => okc c && bsl c r && brk c r && gd r
theorem gd_eq {c : Nat} {r : List Nat} : gd (c :: r) = (okc c && bsl c r && brk c r && gd r) := rfl
theorem gd_tail {c : Nat} {r : List Nat} (h : gd (c :: r) = true) : gd r = true := by
 rw [gd_eq] at h; simp only [Bool.and_eq_true] at h; exact h.2
theorem gd_lt {c : Nat} {r : List Nat} (h : gd (c :: r) = true) : c < 128 := by
 rw [gd_eq] at h; unfold okc at h; simp only [Bool.and_eq_true, decide_eq_true_eq] at h; exact h.1.1.1.1
theorem gd_ok {c : Nat} {r : List Nat} (h : gd (c :: r) = true) : okc c = true := by
 rw [gd_eq] at h; simp only [Bool.and_eq_true] at h; exact h.1.1.1
theorem gd_bs {r : List Nat} (h : gd (92 :: r) = true) : ∃ e r', r = e :: r' /\ (e = 10 \/ e = 125 \/ e = 34 \/ e = 36) := by
 rw [gd_eq] at h; simp only [Bool.and_eq_true] at h
 have := h.1.1.2
 cases r with
 | nil => cases this
 | cons e r' =>
  refine ⟨e, r', rfl, ?_⟩
  simpa [bsl, or_assoc] using this
theorem gd_br {r : List Nat} (h : gd (91 :: r) = true) : (∃ r', r = 93 :: r') \/ ∃ r', r = 102 :: 32 :: 49 :: 93 :: r' := by
 rw [gd_eq] at h; simp only [Bool.and_eq_true] at h
 have := h.1.2
 unfold brk at this
 simp only [bne_self_eq_false, Bool.false_or, Bool.or_eq_true, beq_iff_eq] at this
 rcases this with h | h
 ·exact .inl ⟨r.drop 1, by rw [<- List.take_append_drop 1 r, h]; rfl⟩
 ·exact .inr ⟨r.drop 4, by rw [<- List.take_append_drop 4 r, h]; rfl⟩
theorem gd_suf {u T : List Nat} (h : u <:+ T) (g : gd T = true) : gd u = true := by
 obtain ⟨p, rfl⟩ := h
 induction p with
 | nil => exact g
 | cons c p ih => exact ih (gd_tail g)
theorem suf_tail {c : Nat} {r T : List Nat} (h : (c :: r) <:+ T) : r <:+ T := List.IsSuffix.trans (List.suffix_cons c r) h
noncomputable def blankc (c : Nat) : Bool := c == 32 || c == 9 || c == 10
noncomputable def wordc (c : Nat) : Bool := isAlnumA c || c == 95
theorem okc_lt {c : Nat} (h : okc c = true) : c < 128 := of_decide_eq_true (Bool.and_eq_true_iff.mp h).1
theorem blank_all : ∀ c, c < 128 -> okc c = true -> [[32], [9], [10], [11], [12], [13]].contains [c] = blankc c := by decide +kernel
theorem blank_of {c : Nat} (h : okc c = true) : [[32], [9], [10], [11], [12], [13]].contains [c] = blankc c := blank_all c (okc_lt h) h
theorem gap_all : ∀ c, c < 128 -> okc c = true -> [[32], [9], [11], [12], [13]].contains [c] = (c == 32 || c == 9) := by decide +kernel
theorem gap_of {c : Nat} (h : okc c = true) : [[32], [9], [11], [12], [13]].contains [c] = (c == 32 || c == 9) := gap_all c (okc_lt h) h
theorem dg_all : ∀ c, c < 128 -> decide (0 <= dg c) = isAlnumA c := by decide +kernel
theorem dg_word (c : Nat) : decide (0 <= dg c) = isAlnumA c := by
 rcases Nat.lt_or_ge c 128 with h | h
 ·exact dg_all c h
 have n : ∀ m, m < 128 -> ¬c <= m := fun m hm q => absurd (Nat.le_trans h q) (Nat.not_le.mpr hm)
 have e : dg c = -1 := by
  unfold dg
  rw [if_neg fun q => n 57 (by decide) (Int.ofNat_le.mp q.2), if_neg fun q => n 122 (by decide) (Int.ofNat_le.mp q.2), if_neg fun q => n 90 (by decide) (Int.ofNat_le.mp q.2)]
 unfold isAlnumA isDigitA isAlphaA
 rw [e, decide_eq_false (n 57 (by decide)), decide_eq_false (n 90 (by decide)), decide_eq_false (n 122 (by decide)), Bool.and_false, Bool.and_false, Bool.and_false]; rfl
theorem dg_lt (c : Nat) : dg c < 36 := by
 unfold dg
 split
 ·lia
 split
 ·lia
 split <;> lia
noncomputable def dropC (x : Nat) : List Nat -> List Nat
 | [] => []
 | c :: r => if c == x then c :: r else dropC x r
theorem dropC_eq {x c : Nat} {r : List Nat} : dropC x (c :: r) = if c == x then c :: r else dropC x r := rfl
noncomputable abbrev dropL : List Nat -> List Nat := dropC 10
noncomputable def skipF : Bool -> List Nat -> List Nat
 | _, [] => []
 | true, c :: r => if c == 10 then skipF false r else skipF true r
 | false, c :: r => if blankc c then skipF false r else if c == 35 then skipF true r else
  match r with
  | [] => [c]
  | x :: r' => if c == 92 && x == 10 then skipF false r' else c :: x :: r'
noncomputable def skipT (c : Nat) : List Nat -> List Nat
 | [] => [c]
 | x :: r' => if c == 92 && x == 10 then skipF false r' else c :: x :: r'
theorem skip_t {c : Nat} {r : List Nat} : skipF true (c :: r) = if c == 10 then skipF false r else skipF true r := rfl
theorem skip_f {c : Nat} {r : List Nat} : skipF false (c :: r) = if blankc c then skipF false r else if c == 35 then skipF true r else skipT c r := by cases r <;> rfl
theorem dropL_suf {x : Nat} : ∀ u : List Nat, dropC x u <:+ u
 | [] => List.suffix_refl _
 | c :: r => by
  rw [dropC_eq]
  split
  ·exact List.suffix_refl _
  ·exact List.IsSuffix.trans (dropL_suf r) (List.suffix_cons c r)
theorem skip_blank {c : Nat} {r : List Nat} (h : blankc c = true) : skipF false (c :: r) = skipF false r := skip_f.trans (if_pos h)
theorem skip_dropL : ∀ u : List Nat, skipF true u = skipF false (dropL u)
 | [] => rfl
 | c :: r => by
  have h1 : skipF true (c :: r) = if c == 10 then skipF false r else skipF true r := rfl
  have h2 : dropL (c :: r) = if c == 10 then c :: r else dropL r := rfl
  rw [h1, h2]
  cases h : c == 10
  ·exact skip_dropL r
  ·have : c = 10 := by simpa using h
   subst this
   exact (skip_blank rfl).symm
theorem skip_rem {r : List Nat} : skipF false (35 :: r) = skipF false (dropL r) := by
 rw [<- skip_dropL, skip_f]; rfl
theorem skip_row {r : List Nat} : skipF false (92 :: 10 :: r) = skipF false r := rfl
theorem skip_stay {c : Nat} {r : List Nat} (h1 : blankc c = false) (h2 : (c == 35) = false) (h3 : ¬(c = 92 /\ ∃ r', r = 10 :: r')) : skipF false (c :: r) = c :: r := by
 rw [skip_f, h1, h2]
 show skipT c r = _
 cases r with
 | nil => rfl
 | cons x r => exact if_neg fun q => h3 ⟨eq_of_beq (Bool.and_eq_true_iff.mp q).1, r, by rw [eq_of_beq (Bool.and_eq_true_iff.mp q).2]⟩
theorem skip_sufs (k : Nat) : ∀ (b : Bool) (u : List Nat), u.length <= k -> skipF b u <:+ u := by
 induction k with
 | zero => exact fun b u h => by rw [List.eq_nil_of_length_eq_zero (Nat.le_zero.mp h)]; cases b <;> exact List.suffix_refl _
 | succ k ih =>
 intro b u h
 cases u with
 | nil => cases b <;> exact List.suffix_refl _
 | cons c r =>
 have h := Nat.le_of_succ_le_succ h
 have g : ∀ b, skipF b r <:+ c :: r := fun b => (ih b r h).trans (List.suffix_cons c r)
 cases b
 ·rw [skip_f]
  by_cases h1 : blankc c = true
  ·rw [if_pos h1]; exact g _
  rw [if_neg h1]
  by_cases h2 : (c == 35) = true
  ·rw [if_pos h2]; exact g _
  rw [if_neg h2]
  cases r with
  | nil => exact List.suffix_refl _
  | cons x r =>
   show (if c == 92 && x == 10 then skipF false r else c :: x :: r) <:+ _
   by_cases h3 : (c == 92 && x == 10) = true
   ·rw [if_pos h3]; exact (ih _ _ (Nat.le_of_succ_le h)).trans ⟨[c, x], rfl⟩
   ·rw [if_neg h3]; exact List.suffix_refl _
 ·rw [skip_t]
  by_cases h1 : (c == 10) = true
  ·rw [if_pos h1]; exact g _
  ·rw [if_neg h1]; exact g _
theorem skip_suf (b : Bool) (u : List Nat) : skipF b u <:+ u := skip_sufs u.length b u (Nat.le_refl _)
section
variable {K d : Nat} {T : List Nat}
noncomputable abbrev S27 (T u : List Nat) (x : Option PyData) : Sg := ⟨[some (.str (mkS T)), some (.int (pos T u)), some (.int T.length), x], none⟩
noncomputable abbrev D27 : Ex := .and (.cons (.cmp .lt (.v 1) (.v 2)) (.cons (.cmp .ne (.idx (.v 0) (.v 1)) (.str ⟨#[10]⟩)) .nil))
theorem d27 {cf : Cfn} {c : Nat} {r : List Nat} {x : Option PyData} (hf : Fit T) (hs : (c :: r) <:+ T) : ev cf (S27 T (c :: r) x) D27 = .ok (.d (.bool (!(c == 10)))) :=
 (e_and2 (e_lt rfl rfl) (fun _ => e_neS (x := [c]) (y := [10]) (e_idx hf hs rfl rfl) rfl)).trans (by rw [lt_cons, show ([c] == [10]) = (c == 10 && true) from rfl, Bool.and_true, Bool.true_and])
theorem L27b {cf : Cfn} (hf : Fit T) (x : PyData) (k : Nat) : ∀ (u : List Nat), u <:+ T -> u.length < k -> Lp cf K D27 (.aug 1 .add (.int 1)) k (S27 T u (some x)) = .ok (.next (S27 T (dropL u) (some x))) := by
 induction k with
 | zero => exact fun _ _ h => absurd h (Nat.not_lt_zero _)
 | succ k ih =>
 intro u hs hl
 cases u with
 | nil => exact w_stop (e_and2 (t := false) (e_lt rfl rfl) (fun h => by rw [lt_nil] at h; cases h)) (by rw [lt_nil]; rfl)
 | cons c r =>
 rw [show dropL (c :: r) = if c == 10 then c :: r else dropL r from rfl]
 cases h : c == 10
 ·exact (w_next (d27 hf hs) (by rw [h]; rfl) (x_augZ rfl rfl (pos1 ..))).trans (ih r (suf_tail hs) (Nat.lt_of_succ_lt_succ hl))
 ·exact w_stop (d27 hf hs) (by rw [h]; rfl)
noncomputable abbrev C27 : Ex := .cmp .lt (.v 1) (.v 2)
noncomputable abbrev B27 : Cm := .seq (.set 3 (.idx (.v 0) (.v 1)))
 (.ite (.call 4 (.cons (.v 3) .nil))
 (.aug 1 .add (.int 1)) (.ite (.and (.cons (.cmp .eq (.v 3) (.str ⟨#[92]⟩)) (.cons (.cmp .eq (.slSS (.v 0) (.bin .add (.v 1) (.int 1)) (.bin .add (.v 1) (.int 2))) (.str ⟨#[10]⟩)) .nil)))
 (.aug 1 .add (.int 2)) (.ite (.cmp .eq (.v 3) (.str ⟨#[35]⟩))
 (.wh D27 (.aug 1 .add (.int 1))) .brk)))
section
variable {c : Nat} {r : List Nat} {x : Option PyData} {cf : Cfn}
theorem q27 (hf : Fit T) (hs : (c :: r) <:+ T) : ev cf (S27 T (c :: r) (some (.str ⟨[c].toArray⟩))) (.and (.cons (.cmp .eq (.v 3) (.str ⟨#[92]⟩)) (.cons (.cmp .eq (.slSS (.v 0) (.bin .add (.v 1) (.int 1)) (.bin .add (.v 1) (.int 2))) (.str ⟨#[10]⟩)) .nil))) = .ok (.d (.bool ([c] == [92] && (((c :: r).drop 1).take 1) == [10]))) :=
 e_and2 (e_eqS (x := [c]) (y := [92]) rfl rfl) fun _ => e_eqS (y := [10]) (e_slc (p_sl12 hf hs) rfl (e_add rfl rfl) (e_add rfl rfl)) rfl
theorem n27 (h3 : ¬(c = 92 /\ ∃ r', r = 10 :: r')) : ([c] == [92] && (((c :: r).drop 1).take 1) == [10]) = false := by
 rw [Bool.eq_false_iff]
 intro q
 rw [Bool.and_eq_true] at q
 refine h3 ⟨(List.cons.inj (eq_of_beq q.1)).1, r.drop 1, ?_⟩
 rw [<- List.take_append_drop 1 r, show r.take 1 = [10] from eq_of_beq q.2]; rfl
noncomputable def End27 (T : List Nat) (o : Rs Out) (u : List Nat) : Prop := ∃ y, o = .ok (.next (S27 T u y))
theorem End27.step {o o' : Rs Out} {u : List Nat} (h : o = o') (k : End27 T o' u) : End27 T o u := by rw [h]; exact k
theorem w27 (hf : Fit T) (hs : (c :: r) <:+ T) {o : Rs Out} (h : exc cf K (.ite (.call 4 (.cons (.v 3) .nil)) (.aug 1 .add (.int 1)) (.ite (.and (.cons (.cmp .eq (.v 3) (.str ⟨#[92]⟩)) (.cons (.cmp .eq (.slSS (.v 0) (.bin .add (.v 1) (.int 1)) (.bin .add (.v 1) (.int 2))) (.str ⟨#[10]⟩)) .nil)))
 (.aug 1 .add (.int 2)) (.ite (.cmp .eq (.v 3) (.str ⟨#[35]⟩)) (.wh D27 (.aug 1 .add (.int 1))) .brk))) (S27 T (c :: r) (some (.str ⟨[c].toArray⟩))) = o) : exc cf K B27 (S27 T (c :: r) x) = o := s_set (e_idx hf hs rfl rfl) h
end
theorem L27 (hf : Fit T) (hK : 4001 <= K) (k : Nat) : ∀ (u : List Nat) (x : Option PyData), u <:+ T -> gd u = true -> u.length < k -> End27 T (Lp (cfn K (d + 1)) K C27 B27 k (S27 T u x)) (skipF false u) := by
 induction k with
 | zero => exact fun _ _ _ _ h => absurd h (Nat.not_lt_zero _)
 | succ k ih =>
 intro u x hs hg hl
 cases u with
 | nil => exact ⟨x, w_stop (e_lt rfl rfl) (lt_nil T)⟩
 | cons c r =>
 have hl' := Nat.lt_of_succ_lt_succ hl
 have hb0 := blank_of (gd_ok hg)
 cases hb : blankc c
 ·by_cases h3 : c = 92 /\ ∃ r', r = 10 :: r'
  ·obtain ⟨rfl, r', rfl⟩ := h3
   exact .step (w_next (e_lt rfl rfl) (lt_cons ..) (w27 hf hs (s_F (e_call1 rfl (f4 92)) rfl (s_T (q27 hf hs) rfl (x_augZ rfl rfl ((pos2 ..).trans (pos1 ..))))))) (ih r' _ (suf_tail (suf_tail hs)) (gd_tail (gd_tail hg)) (Nat.lt_of_succ_lt hl'))
  ·by_cases hc : (c == 35) = true
   ·obtain rfl := eq_of_beq hc
    rw [skip_rem]
    exact .step (w_next (e_lt rfl rfl) (lt_cons ..) (w27 hf hs (s_F (e_call1 rfl (f4 35)) rfl (s_F (q27 hf hs) (n27 h3) (s_T (e_eqS (x := [35]) (y := [35]) rfl rfl) rfl (L27b (K := K) (cf := cfn K (d + 1)) hf (.str ⟨[35].toArray⟩) K (35 :: r) hs (Nat.lt_of_lt_of_le (Nat.lt_succ_of_le (Nat.le_trans (suf_le hs) hf)) hK)))))))
     (ih (dropL r) _ ((dropL_suf r).trans (suf_tail hs)) (gd_suf (dropL_suf r) (gd_tail hg)) (Nat.lt_of_le_of_lt (dropL_suf r).length_le hl'))
   ·have hc := Bool.eq_false_iff.mpr hc
    rw [skip_stay hb hc h3]
    exact ⟨_, w_brk (e_lt rfl rfl) (lt_cons ..) (w27 hf hs (s_F (e_call1 rfl (f4 c)) (hb0.trans hb) (s_F (q27 hf hs) (n27 h3) (s_F (e_eqS (x := [c]) (y := [35]) rfl rfl) (by rw [show ([c] == [35]) = (c == 35 && true) from rfl, hc]; rfl) rfl))))⟩
 ·rw [skip_blank hb]
  exact .step (w_next (e_lt rfl rfl) (lt_cons ..) (w27 hf hs (s_T (e_call1 rfl (f4 c)) (hb0.trans hb) (x_augZ rfl rfl (pos1 ..))))) (ih r _ (suf_tail hs) (gd_tail hg) hl')
theorem f27 {u : List Nat} (hf : Fit T) (hK : 4001 <= K) (hs : u <:+ T) (hg : gd u = true) : cfn K (d + 2) 27 [.str (mkS T), .int (pos T u)] = .ok (.d (.int (pos T (skipF false u)))) := by
 rw [c27]
 obtain ⟨y, hy⟩ := L27 (d := d) hf hK K u none hs hg (Nat.lt_of_lt_of_le (Nat.lt_succ_of_le (Nat.le_trans (suf_le hs) hf)) hK)
 exact G.of (s_set (e_len hf rfl) (s_wh hy (x_ret (e_v rfl)))) rfl
end
noncomputable def figc (b : Int) (c : Nat) : Bool := decide (0 <= dg c) && decide (dg c < b)
noncomputable def figH (b : Int) : List Nat -> Bool
 | [] => false
 | c :: _ => figc b c
theorem fig36 (c : Nat) : figc 36 c = isAlnumA c := by
 unfold figc
 rw [decide_eq_true (dg_lt c), Bool.and_true, dg_word]
noncomputable def nmF (n : Bool) : Bool -> List Nat -> List Nat
 | _, [] => []
 | b, c :: r => if b && c == 58 then nmF n true r else if wordc c then nmF n false r else
  match r with
  | [] => [c]
  | x :: r' => if c == 58 && x == 58 then nmF n n r' else c :: x :: r'
noncomputable def nmT (n : Bool) (c : Nat) : List Nat -> List Nat
 | [] => [c]
 | x :: r' => if c == 58 && x == 58 then nmF n n r' else c :: x :: r'
theorem nm_eq {n b : Bool} {c : Nat} {r : List Nat} : nmF n b (c :: r) = if b && c == 58 then nmF n true r else if wordc c then nmF n false r else nmT n c r := by cases r <;> rfl
theorem nmT_stay {n : Bool} {c : Nat} {r : List Nat} (h3 : ¬(c = 58 /\ ∃ r', r = 58 :: r')) : nmT n c r = c :: r := by
 cases r with
 | nil => rfl
 | cons x r => exact if_neg fun q => h3 ⟨eq_of_beq (Bool.and_eq_true_iff.mp q).1, r, by rw [eq_of_beq (Bool.and_eq_true_iff.mp q).2]⟩
theorem nm_word {n b : Bool} {c : Nat} {r : List Nat} (h : wordc c = true) : nmF n b (c :: r) = nmF n false r := by
 have hc : (c == 58) = false := by
  cases q : c == 58
  ·rfl
  ·have : c = 58 := by simpa using q
   subst this
   exact absurd h (by decide)
 rw [nm_eq, hc, Bool.and_false, h]; rfl
theorem nm_two {n : Bool} {r : List Nat} : nmF n false (58 :: 58 :: r) = nmF n n r := rfl
theorem nm_stay {n : Bool} {c : Nat} {r : List Nat} (h : wordc c = false) (h3 : ¬(c = 58 /\ ∃ r', r = 58 :: r')) : nmF n false (c :: r) = c :: r := by
 rw [nm_eq, Bool.false_and, h]
 exact nmT_stay h3
noncomputable def eatC : List Nat -> List Nat
 | [] => []
 | c :: r => if c == 58 then eatC r else c :: r
theorem eatC_eq {c : Nat} {r : List Nat} : eatC (c :: r) = if c == 58 then eatC r else c :: r := rfl
theorem eat_suf : ∀ u : List Nat, eatC u <:+ u
 | [] => List.suffix_refl _
 | c :: r => by
  rw [eatC_eq]
  split
  ·exact List.IsSuffix.trans (eat_suf r) (List.suffix_cons c r)
  ·exact List.suffix_refl _
theorem nm_eat {n : Bool} : ∀ u : List Nat, nmF n true u = nmF n false (eatC u)
 | [] => rfl
 | c :: r => by
  cases h : c == 58
  ·have e : eatC (c :: r) = c :: r := by rw [eatC_eq]; rw [h]; rfl
   rw [e]
   rw [nm_eq, nm_eq, h]; rfl
  ·have : c = 58 := by simpa using h
   subst this
   have h1 : nmF n true (58 :: r) = nmF n true r := by
    rw [nm_eq]
    exact if_pos (by decide)
   have h2 : eatC (58 :: r) = eatC r := by
    rw [eatC_eq]
    exact if_pos (by decide)
   rw [h1, h2]
   exact nm_eat r
theorem nm_sufs (n : Bool) (k : Nat) : ∀ (b : Bool) (u : List Nat), u.length <= k -> nmF n b u <:+ u := by
 induction k with
 | zero => exact fun b u h => by rw [List.eq_nil_of_length_eq_zero (Nat.le_zero.mp h)]; exact List.suffix_refl _
 | succ k ih =>
 intro b u h
 cases u with
 | nil => exact List.suffix_refl _
 | cons c r =>
 have h := Nat.le_of_succ_le_succ h
 have g : ∀ b, nmF n b r <:+ c :: r := fun b => (ih b r h).trans (List.suffix_cons c r)
 rw [nm_eq]
 by_cases h1 : (b && c == 58) = true
 ·rw [if_pos h1]; exact g _
 rw [if_neg h1]
 by_cases h2 : wordc c = true
 ·rw [if_pos h2]; exact g _
 rw [if_neg h2]
 cases r with
 | nil => exact List.suffix_refl _
 | cons x r =>
  show (if c == 58 && x == 58 then nmF n n r else c :: x :: r) <:+ _
  by_cases h3 : (c == 58 && x == 58) = true
  ·rw [if_pos h3]; exact (ih _ _ (Nat.le_of_succ_le h)).trans ⟨[c, x], rfl⟩
  ·rw [if_neg h3]; exact List.suffix_refl _
theorem nm_suf (n b : Bool) (u : List Nat) : nmF n b u <:+ u := nm_sufs n u.length b u (Nat.le_refl _)
theorem two_ne {c x y : Nat} {r : List Nat} (h : ¬(c = x /\ ∃ r', r = y :: r')) : ((c :: r).take 2 == [x, y]) = false := by
 rw [Bool.eq_false_iff]
 intro q
 simp only [beq_iff_eq, List.take_succ_cons, List.cons.injEq] at q
 refine h ⟨q.1, r.drop 1, ?_⟩
 rw [<- List.take_append_drop 1 r, q.2]; rfl
theorem word_split (c : Nat) : (c == 95 || isAlnumA c) = wordc c := Bool.or_comm _ _
section
variable {K d : Nat} {T : List Nat} {cf : Cfn} {σ : Sg}
theorem e_cmp2 {a b c : Ex} {x y z : Int} (ha : ev cf σ a = .ok (.d (.int x))) (hb : ev cf σ b = .ok (.d (.int y))) (hc : ev cf σ c = .ok (.d (.int z))) : ev cf σ (.cmp2 .le .lt a b c) = .ok (.d (.bool (decide (x <= y) && decide (y < z)))) := by
 show (ev cf σ a).bind _ = _
 rw [ha]
 show (ev cf σ b).bind _ = _
 rw [hb]
 rw [rb, db, rb, q_le, rb]
 cases decide (x <= y)
 ·rfl
 ·show (ev cf σ c).bind _ = _
  rw [hc, rb, db, rb, q_lt]; rfl
theorem f28 {u : List Nat} {b : Int} (hf : Fit T) (hs : u <:+ T) : cfn K (d + 2) 28 [.str (mkS T), .int (pos T u), .int b] = .ok (.d (.bool (figH b u))) := by
 rw [c28]
 have : exc (cfn K (d + 1)) K cm28 ⟨[some (.str (mkS T)), some (.int (pos T u)), some (.int b)], none⟩ = .ok (.ret (.d (.bool (figH b u)))) := by
  refine x_ret ?_
  cases u with
  | nil =>
   refine (e_and2 (t := false) (e_lt rfl (e_len hf rfl)) fun h => ?_).trans ?_
   ·rw [lt_nil] at h; cases h
   ·rw [lt_nil]; rfl
  | cons c r =>
   refine (e_and2 (e_lt rfl (e_len hf rfl)) fun _ => e_cmp2 rfl (e_call1 (e_idx hf hs rfl rfl) (f5 c)) rfl).trans ?_
   rw [lt_cons]; rfl
 rw [this]
 rfl
theorem L29 (hf : Fit T) : ∀ (k : Nat) (u : List Nat), u <:+ T -> u.length < k ->
  loopW (fun σ => (ev (cfn K (d + 2)) σ (.cmp .lt (.v 1) (.bi .len (.v 0)))).bind boolOf) (exc (cfn K (d + 2)) K (.ite (.or (.cons (.cmp .eq (.idx (.v 0) (.v 1)) (.str ⟨#[95]⟩)) (.cons (.call 28 (.cons (.v 0) (.cons (.v 1) (.cons (.int 36) .nil)))) .nil)))
 (.aug 1 .add (.int 1)) (.ite (.cmp .eq (.slSS (.v 0) (.v 1) (.bin .add (.v 1) (.int 2))) (.str ⟨#[58, 58]⟩))
 (.aug 1 .add (.int 2)) .brk))) k ⟨[some (.str (mkS T)), some (.int (pos T u))], none⟩ = .ok (.next ⟨[some (.str (mkS T)), some (.int (pos T (nmF false false u)))], none⟩)
 | 0, _, _, h => absurd h (Nat.not_lt_zero _)
 | k + 1, [], hs, _ => w_stop (e_lt rfl (e_len hf rfl)) (lt_nil T)
 | k + 1, c :: r, hs, hl => by
  have hl' : r.length < k := by simpa using hl
  have ho : ev (cfn K (d + 2)) ⟨[some (.str (mkS T)), some (.int (pos T (c :: r)))], none⟩ (.or (.cons (.cmp .eq (.idx (.v 0) (.v 1)) (.str ⟨#[95]⟩)) (.cons (.call 28 (.cons (.v 0) (.cons (.v 1) (.cons (.int 36) .nil)))) .nil))) = .ok (.d (.bool (wordc c))) := by
   refine (e_or2 (e_eqS (x := [c]) (y := [95]) (e_idx hf hs rfl rfl) rfl) fun _ => e_call3 rfl rfl rfl (f28 hf hs)).trans ?_
   rw [<- word_split, <- fig36]
   congr 3
   simp [figH]
  cases hw : wordc c
  ·by_cases h3 : c = 58 /\ ∃ r', r = 58 :: r'
   ·obtain ⟨rfl, r', rfl⟩ := h3
    refine (w_next (e_lt rfl (e_len hf rfl)) (lt_cons ..) (s_F ho hw (s_T (e_eqS (y := [58, 58]) (e_slc (p_sl02 hf hs) rfl rfl (e_add rfl rfl)) rfl) rfl (x_augZ rfl rfl ((pos2 ..).trans (pos1 ..)))))).trans ?_
    exact L29 hf k r' (suf_tail (suf_tail hs)) (by simp at hl'; lia)
   ·rw [nm_stay hw h3]
    exact w_brk (e_lt rfl (e_len hf rfl)) (lt_cons ..) (s_F ho hw (s_F (e_eqS (y := [58, 58]) (e_slc (p_sl02 hf hs) rfl rfl (e_add rfl rfl)) rfl) (two_ne h3) rfl))
  ·rw [nm_word hw]
   exact (w_next (e_lt rfl (e_len hf rfl)) (lt_cons ..) (s_T ho hw (x_augZ rfl rfl (pos1 ..)))).trans (L29 hf k r (suf_tail hs) hl')
theorem f29 {u : List Nat} (hf : Fit T) (hK : 4001 <= K) (hs : u <:+ T) : cfn K (d + 3) 29 [.str (mkS T), .int (pos T u)] = .ok (.d (.int (pos T (nmF false false u)))) := by
 rw [c29]
 have hf' : T.length <= 4000 := hf
 have hsl := suf_le hs
 have : exc (cfn K (d + 2)) K cm29 ⟨[some (.str (mkS T)), some (.int (pos T u))], none⟩ = .ok (.ret (.d (.int (pos T (nmF false false u))))) := s_wh (L29 (d := d) hf K u hs (by lia)) (x_ret (e_v rfl))
 rw [this]
 rfl
theorem L16b (hf : Fit T) : ∀ (k : Nat) (u : List Nat), u <:+ T -> u.length < k ->
  loopW (fun σ => (ev cf σ (.cmp .eq (.slSS (.v 0) (.v 1) (.bin .add (.v 1) (.int 1))) (.str ⟨#[58]⟩))).bind boolOf) (exc cf K (.aug 1 .add (.int 1))) k ⟨[some (.str (mkS T)), some (.int (pos T u))], none⟩ =
   .ok (.next ⟨[some (.str (mkS T)), some (.int (pos T (eatC u)))], none⟩)
 | 0, _, _, h => absurd h (Nat.not_lt_zero _)
 | k + 1, [], hs, _ => w_stop (e_eqS (y := [58]) (e_slc (p_sl01 hf hs) rfl rfl (e_add rfl rfl)) rfl) rfl
 | k + 1, c :: r, hs, hl => by
  rw [eatC_eq]
  cases h : c == 58
  ·exact w_stop (e_eqS (y := [58]) (e_slc (p_sl01 hf hs) rfl rfl (e_add rfl rfl)) rfl) (by simpa using h)
  ·exact (w_next (e_eqS (y := [58]) (e_slc (p_sl01 hf hs) rfl rfl (e_add rfl rfl)) rfl) (by simpa using h) (x_augZ rfl rfl (pos1 ..))).trans (L16b hf k r (suf_tail hs) (by simpa using hl))
noncomputable abbrev C16 : Ex := .cmp .lt (.v 1) (.bi .len (.v 0))
noncomputable abbrev B16 : Cm := .ite (.or (.cons (.cmp .eq (.idx (.v 0) (.v 1)) (.str ⟨#[95]⟩)) (.cons (.cmp .ge (.call 5 (.cons (.idx (.v 0) (.v 1)) .nil)) (.int 0)) .nil)))
 (.aug 1 .add (.int 1)) (.ite (.cmp .eq (.slSS (.v 0) (.v 1) (.bin .add (.v 1) (.int 2))) (.str ⟨#[58, 58]⟩))
 (.seq (.aug 1 .add (.int 2))
 (.wh (.cmp .eq (.slSS (.v 0) (.v 1) (.bin .add (.v 1) (.int 1))) (.str ⟨#[58]⟩))
 (.aug 1 .add (.int 1)))) (.ret (.v 1)))
theorem o16 {c : Nat} {r : List Nat} (hf : Fit T) (hs : (c :: r) <:+ T) : ev (cfn K (d + 1)) (S2 T (c :: r)) (.or (.cons (.cmp .eq (.idx (.v 0) (.v 1)) (.str ⟨#[95]⟩)) (.cons (.cmp .ge (.call 5 (.cons (.idx (.v 0) (.v 1)) .nil)) (.int 0)) .nil))) = .ok (.d (.bool (wordc c))) := by
 refine (e_or2 (e_eqS (x := [c]) (y := [95]) (e_idx hf hs rfl rfl) rfl) fun _ => e_ge (e_call1 (e_idx hf hs rfl rfl) (f5 c)) rfl).trans ?_
 rw [<- word_split, <- dg_word, show ([c] == [95]) = (c == 95 && true) from rfl, Bool.and_true]
theorem L16 (hf : Fit T) (hK : 4001 <= K) (k : Nat) : ∀ (u : List Nat), u <:+ T -> u.length < k -> EndN (Lp (cfn K (d + 1)) K C16 B16 k (S2 T u)) (S2 T (nmF true false u)) (.d (.int (pos T (nmF true false u)))) := by
 induction k with
 | zero => exact fun _ _ h => absurd h (Nat.not_lt_zero _)
 | succ k ih =>
 intro u hs hl
 cases u with
 | nil => exact Or.inl (w_stop (e_lt rfl (e_len hf rfl)) (lt_nil T))
 | cons c r =>
 have hl' := Nat.lt_of_succ_lt_succ hl
 cases hw : wordc c
 ·by_cases h3 : c = 58 /\ ∃ r', r = 58 :: r'
  ·obtain ⟨rfl, r', rfl⟩ := h3
   have hs' := suf_tail (suf_tail hs)
   rw [nm_two, nm_eat]
   exact .step (w_next (e_lt rfl (e_len hf rfl)) (lt_cons ..) (s_F (o16 hf hs) hw (s_T (e_eqS (y := [58, 58]) (e_slc (p_sl02 hf hs) rfl rfl (e_add rfl rfl)) rfl) rfl (s_seq (x_augZ rfl rfl ((pos2 ..).trans (pos1 ..))) (L16b hf K r' hs' (Nat.lt_of_lt_of_le (Nat.lt_succ_of_le (Nat.le_trans (suf_le hs') hf)) hK))))))
    (ih (eatC r') ((eat_suf r').trans hs') (Nat.lt_of_le_of_lt (eat_suf r').length_le (Nat.lt_of_succ_lt hl')))
  ·rw [nm_stay hw h3]
   exact Or.inr (w_ret (e_lt rfl (e_len hf rfl)) (lt_cons ..) (s_F (o16 hf hs) hw (s_F (e_eqS (y := [58, 58]) (e_slc (p_sl02 hf hs) rfl rfl (e_add rfl rfl)) rfl) (two_ne h3) (x_ret (e_v rfl)))))
 ·rw [nm_word hw]
  exact .step (w_next (e_lt rfl (e_len hf rfl)) (lt_cons ..) (s_T (o16 hf hs) hw (x_augZ rfl rfl (pos1 ..)))) (ih r (suf_tail hs) hl')
theorem x_seqEnd {a b : Cm} {v : V} {σ' : Sg} (h : exc cf K a σ = .ok (.next σ') \/ exc cf K a σ = .ok (.ret v)) (k : exc cf K b σ' = .ok (.ret v)) : exc cf K (.seq a b) σ = .ok (.ret v) := by
 rcases h with h | h
 ·exact s_seq h k
 ·exact x_seqR h
theorem f16 {u : List Nat} (hf : Fit T) (hK : 4001 <= K) (hs : u <:+ T) : cfn K (d + 2) 16 [.str (mkS T), .int (pos T u)] = .ok (.d (.int (pos T (nmF true false u)))) := by
 rw [c16]
 have hf' : T.length <= 4000 := hf
 have hsl := suf_le hs
 have : exc (cfn K (d + 1)) K cm16 ⟨[some (.str (mkS T)), some (.int (pos T u))], none⟩ = .ok (.ret (.d (.int (pos T (nmF true false u))))) := x_seqEnd (L16 (d := d) hf hK K u hs (by lia)) (x_ret (e_v rfl))
 rw [this]
 rfl
end
noncomputable def nonS : Str := ⟨#[78, 79, 78, 69]⟩
noncomputable def plainX (t : List Nat) : Xc := ⟨⟨t.toArray⟩, [nonS]⟩
noncomputable def midL : List Nat := [10, 105, 110, 32, 101, 120, 112, 114, 101, 115, 115, 105, 111, 110, 32, 34]
noncomputable def exprX (T what : List Nat) : Xc := ⟨⟨(((what ++ midL) ++ T) ++ [34]).toArray⟩, [⟨#[84, 67, 76]⟩, ⟨#[80, 65, 82, 83, 69]⟩, ⟨#[69, 88, 80, 82]⟩]⟩
theorem pl2 : parN 2 = 2 /\ (localsAt 2).length = 2 := by decide +kernel
section
variable {K d : Nat} {T : List Nat} {cf : Cfn} {σ : Sg}
theorem f2 (t : List Nat) : cfn K (d + 1) 2 [.str ⟨t.toArray⟩] = .ok (.exc (plainX t)) := by
 have hf : full 2 [.str ⟨t.toArray⟩] = some [.str ⟨t.toArray⟩, .tuple [.str noneS]] := by
  unfold full
  rw [if_neg (by rw [pl2.1]; intro h; cases h), if_neg (by rintro ⟨h, _⟩; cases h), if_pos ⟨rfl, rfl⟩]
  rfl
 rw [cfn_of (c := cm2) rfl hf]
 unfold startSg
 rw [pl2.2]
 rfl
theorem raised3 {t : Str} {l : List PyData} {ls : List Str} (h : strsOf l = some ls) : raisedD [.int 1, .str t, .tuple l] = .ok (.exc ⟨t, ls⟩) := by
 show ((Rs.opt (strsOf l) Rs.ok).bind fun ls => Rs.ok (V.exc ⟨t, ls⟩)) = _
 rw [h]; rfl
theorem f2b (t : List Nat) (l : List PyData) (ls : List Str) (h : strsOf l = some ls) : cfn K (d + 1) 2 [.str ⟨t.toArray⟩, .tuple l] = .ok (.exc ⟨⟨t.toArray⟩, ls⟩) := by
 rw [cfn_run (i := 2) (c := cm2) (m := 2) (args := [.str ⟨t.toArray⟩, .tuple l]) rfl pl2.1.symm pl2.2]
 have : exc (cfn K d) K cm2 ⟨[some (.str ⟨t.toArray⟩), some (.tuple l)], none⟩ = .ok (.ret (.exc ⟨⟨t.toArray⟩, ls⟩)) := by
  refine x_ret ?_
  exact raised3 h
 show (exc (cfn K d) K cm2 ⟨[some (.str ⟨t.toArray⟩), some (.tuple l)], none⟩).bind outV = _
 rw [this]
 rfl
theorem e_rai3 {a b : Ex} {t : Str} {l : List PyData} {ls : List Str} (ha : ev cf σ a = .ok (.d (.str t))) (hb : ev cf σ b = .ok (.d (.tuple l))) (h : strsOf l = some ls) : ev cf σ (.raised (.cons (.int 1) (.cons a (.cons b .nil)))) = .ok (.exc ⟨t, ls⟩) := by
 show ((((ev cf σ a).bind _).bind _)).bind _ = _
 rw [ha]
 show ((((ev cf σ b).bind _).bind _).bind _).bind _ = _
 rw [hb]
 exact raised3 h
theorem e_rai2 {a : Ex} {t : List Nat} (ha : ev cf σ a = .ok (.d (.str ⟨t.toArray⟩))) : ev cf σ (.raised (.cons (.int 1) (.cons a .nil))) = .ok (.exc (plainX t)) := by
 show ((((ev cf σ a).bind _).bind _)).bind _ = _
 rw [ha]
 rfl
theorem f26 (hf : Fit T) {what : List Nat} (hw : what.length <= 1000) (p : Int) : cfn K (d + 2) 26 [.str (mkS T), .int p, .str ⟨what.toArray⟩] = .ok (.exc (exprX T what)) := by
 rw [c26]
 have hf' : T.length <= 4000 := hf
 have : exc (cfn K (d + 1)) K cm26 ⟨[some (.str (mkS T)), some (.int p), some (.str ⟨what.toArray⟩)], none⟩ = .ok (.ret (.exc (exprX T what))) := by
  refine x_ret (e_call2 (e_cat (y := [34]) (e_cat (e_cat (y := midL) rfl rfl ?_) rfl ?_) rfl ?_) rfl (f2b _ _ _ rfl))
  ·have : midL.length = 16 := rfl
   lia
  ·rw [List.length_append]; have : midL.length = 16 := rfl
   lia
  ·rw [List.length_append, List.length_append]; have : midL.length = 16 := rfl
   show _ + 1 <= _
   lia
 rw [this]
 rfl
theorem f40 (hf : Fit T) {what : List Nat} (hw : what.length <= 1000) : cfn K (d + 1) 40 [.str (mkS T), .str ⟨what.toArray⟩] = .ok (.exc (exprX T what)) := by
 rw [c40]
 have hf' : T.length <= 4000 := hf
 have e1 : ev (cfn K d) ⟨[some (.str (mkS T)), some (.str ⟨what.toArray⟩)], none⟩ (.bin .add (.bin .add (.bin .add (.v 1) (.str ⟨#[10, 105, 110, 32, 101, 120, 112, 114, 101, 115, 115, 105, 111, 110, 32, 34]⟩)) (.v 0)) (.str ⟨#[34]⟩)) = .ok (.d (.str ⟨(((what ++ midL) ++ T) ++ [34]).toArray⟩)) := by
  refine e_cat (y := [34]) (e_cat (e_cat (y := midL) rfl rfl ?_) rfl ?_) rfl ?_
  ·have : midL.length = 16 := rfl
   lia
  ·rw [List.length_append]; have : midL.length = 16 := rfl
   lia
  ·rw [List.length_append, List.length_append]; have : midL.length = 16 := rfl
   show _ + 1 <= _
   lia
 have : exc (cfn K d) K cm40 ⟨[some (.str (mkS T)), some (.str ⟨what.toArray⟩)], none⟩ = .ok (.ret (.exc (exprX T what))) := by
  exact x_ret (e_rai3 e1 rfl rfl)
 rw [this]
 rfl
noncomputable def isop (l : List Nat) : Bool := [[101, 113], [110, 101], [105, 110], [110, 105], [108, 116], [108, 101], [103, 116], [103, 101]].contains l
theorem f30 (l : List Nat) : cfn K (d + 1) 30 [.str ⟨l.toArray⟩] = .ok (.d (.bool (isop l))) := by
 rw [c30]
 have : exc (cfn K d) K cm30 ⟨[some (.str ⟨l.toArray⟩)], none⟩ = .ok (.ret (.d (.bool (isop l)))) := x_ret (e_inT [[101, 113], [110, 101], [105, 110], [110, 105], [108, 116], [108, 101], [103, 116], [103, 101]] rfl rfl)
 rw [this]; rfl
theorem f49 (l : List Nat) : cfn K (d + 1) 49 [.str ⟨l.toArray⟩] = .ok (.d (.bool (isop l))) := by
 rw [c49]
 have : exc (cfn K d) K cm49 ⟨[some (.str ⟨l.toArray⟩)], none⟩ = .ok (.ret (.d (.bool (isop l)))) := x_ret (e_inT [[101, 113], [110, 101], [105, 110], [110, 105], [108, 116], [108, 101], [103, 116], [103, 101]] rfl rfl)
 rw [this]; rfl
noncomputable def markb (l : List Nat) : Int := if [[120], [88]].contains l then 16 else if [[111], [79]].contains l then 8 else if [[98], [66]].contains l then 2 else if [[100], [68]].contains l then 10 else 0
theorem f7 (l : List Nat) : cfn K (d + 1) 7 [.str ⟨l.toArray⟩] = .ok (.d (.int (markb l))) := by
 rw [c7]
 have g : ∀ (m : List (List Nat)) {e : Ex}, ev (cfn K d) ⟨[some (.str ⟨l.toArray⟩)], none⟩ e = .ok (.d (tupS m)) -> ev (cfn K d) ⟨[some (.str ⟨l.toArray⟩)], none⟩ (.cmp .in_ (.v 0) e) = .ok (.d (.bool (m.contains l))) := fun m e h => e_inT m rfl h
 have : exc (cfn K d) K cm7 ⟨[some (.str ⟨l.toArray⟩)], none⟩ = .ok (.ret (.d (.int (markb l)))) := by
  unfold markb
  cases h1 : [[120], [88]].contains l
  ·refine s_pass (g [[120], [88]] rfl) h1 ?_
   cases h2 : [[111], [79]].contains l
   ·refine s_pass (g [[111], [79]] rfl) h2 ?_
    cases h3 : [[98], [66]].contains l
    ·refine s_pass (g [[98], [66]] rfl) h3 ?_
     cases h4 : [[100], [68]].contains l
     ·exact s_pass (g [[100], [68]] rfl) h4 rfl
     ·exact x_take (g [[100], [68]] rfl) h4 rfl
    ·exact x_take (g [[98], [66]] rfl) h3 rfl
   ·exact x_take (g [[111], [79]] rfl) h2 rfl
  ·exact x_take (g [[120], [88]] rfl) h1 rfl
 rw [this]; rfl
theorem f41n {b : Int} : cfn K (d + 1) 41 [.str ⟨([] : List Nat).toArray⟩, .int b] = .ok (.d (.bool false)) := by
 rw [c41]; rfl
theorem f41c {b : Int} {c : Nat} (hc : c < 128) (hb : b = 16 \/ b = 8 \/ b = 2 \/ b = 10) : cfn K (d + 1) 41 [.str ⟨[c].toArray⟩, .int b] = .ok (.d (.bool (figc b c))) := by
 rw [c41]
 have : exc (cfn K d) K cm41 ⟨[some (.str ⟨[c].toArray⟩), some (.int b)], none⟩ = .ok (.ret (.d (.bool (figc b c)))) := by
  rcases hb with rfl | rfl | rfl | rfl
  ·refine x_ret ((e_and2 (t := figc 16 c) (e_neS (y := []) rfl rfl) fun _ => ?_).trans (by simp))
   refine (e_inS (y := [48, 49, 50, 51, 52, 53, 54, 55, 56, 57, 97, 98, 99, 100, 101, 102, 65, 66, 67, 68, 69, 70]) rfl rfl).trans ?_
   have : ∀ c < 128, [48, 49, 50, 51, 52, 53, 54, 55, 56, 57, 97, 98, 99, 100, 101, 102, 65, 66, 67, 68, 69, 70].contains c = figc 16 c := by decide +kernel
   rw [this c hc]
  ·refine x_ret ((e_and2 (t := figc 8 c) (e_neS (y := []) rfl rfl) fun _ => ?_).trans (by simp))
   refine (e_inS (y := [48, 49, 50, 51, 52, 53, 54, 55]) rfl rfl).trans ?_
   have : ∀ c < 128, [48, 49, 50, 51, 52, 53, 54, 55].contains c = figc 8 c := by decide +kernel
   rw [this c hc]
  ·refine x_ret ((e_and2 (t := figc 2 c) (e_neS (y := []) rfl rfl) fun _ => ?_).trans (by simp))
   refine (e_inS (y := [48, 49]) rfl rfl).trans ?_
   have : ∀ c < 128, [48, 49].contains c = figc 2 c := by decide +kernel
   rw [this c hc]
  ·refine x_ret ((e_and2 (t := figc 10 c) (e_neS (y := []) rfl rfl) fun _ => ?_).trans (by simp))
   refine (e_inS (y := [48, 49, 50, 51, 52, 53, 54, 55, 56, 57]) rfl rfl).trans ?_
   have : ∀ c < 128, [48, 49, 50, 51, 52, 53, 54, 55, 56, 57].contains c = figc 10 c := by decide +kernel
   rw [this c hc]
 rw [this]; rfl
noncomputable def rowF : List Nat -> List Nat
 | [] => []
 | c :: r => if c == 32 || c == 9 then rowF r else c :: r
theorem rowF_eq {c : Nat} {r : List Nat} : rowF (c :: r) = if c == 32 || c == 9 then rowF r else c :: r := rfl
theorem row_suf : ∀ u : List Nat, rowF u <:+ u
 | [] => List.suffix_refl _
 | c :: r => by
  rw [rowF_eq]
  split
  ·exact List.IsSuffix.trans (row_suf r) (List.suffix_cons c r)
  ·exact List.suffix_refl _
theorem in_two (c : Nat) : [[32], [9]].contains [c] = (c == 32 || c == 9) := by
 by_cases q1 : c = 32 <;> by_cases q2 : c = 9 <;> simp [q1, q2]
theorem L44 (hf : Fit T) : ∀ (k : Nat) (u : List Nat), u <:+ T -> u.length < k ->
  loopW (fun σ => (ev cf σ (.cmp .in_ (.slSS (.v 0) (.v 1) (.bin .add (.v 1) (.int 1))) (.tup (.cons (.str ⟨#[32]⟩) (.cons (.str ⟨#[9]⟩) .nil))))).bind boolOf) (exc cf K (.set 1 (.bin .add (.v 1) (.int 1)))) k ⟨[some (.str (mkS T)), some (.int (pos T u))], none⟩ =
   .ok (.next ⟨[some (.str (mkS T)), some (.int (pos T (rowF u)))], none⟩)
 | 0, _, _, h => absurd h (Nat.not_lt_zero _)
 | k + 1, [], hs, _ => w_stop (e_inT [[32], [9]] (e_slc (p_sl01 hf hs) rfl rfl (e_add rfl rfl)) rfl) rfl
 | k + 1, c :: r, hs, hl => by
  rw [rowF_eq]
  cases h : c == 32 || c == 9
  ·exact w_stop (e_inT [[32], [9]] (e_slc (p_sl01 hf hs) rfl rfl (e_add rfl rfl)) rfl) ((in_two c).trans h)
  ·exact (w_next (e_inT [[32], [9]] (e_slc (p_sl01 hf hs) rfl rfl (e_add rfl rfl)) rfl) ((in_two c).trans h) (x_set (e_addZ rfl rfl (pos1 ..)))).trans (L44 hf k r (suf_tail hs) (by simpa using hl))
theorem f44 {u : List Nat} (hf : Fit T) (hK : 4001 <= K) (hs : u <:+ T) : cfn K (d + 1) 44 [.str (mkS T), .int (pos T u)] = .ok (.d (.int (pos T (rowF u)))) := by
 rw [c44]
 have hf' : T.length <= 4000 := hf
 have hsl := suf_le hs
 have : exc (cfn K d) K cm44 ⟨[some (.str (mkS T)), some (.int (pos T u))], none⟩ = .ok (.ret (.d (.int (pos T (rowF u))))) := s_wh (L44 hf K u hs (by lia)) (x_ret (e_v rfl))
 rw [this]; rfl
theorem L11 (hf : Fit T) {x y z : Option PyData} : ∀ (k : Nat) (u : List Nat), u <:+ T -> u.length < k ->
  loopW (fun σ => (ev cf σ (.cmp .in_ (.slSS (.v 0) (.v 4) (.bin .add (.v 4) (.int 1))) (.tup (.cons (.str ⟨#[32]⟩) (.cons (.str ⟨#[9]⟩) .nil))))).bind boolOf) (exc cf K (.aug 4 .add (.int 1))) k ⟨[some (.str (mkS T)), x, y, z, some (.int (pos T u))], none⟩ =
   .ok (.next ⟨[some (.str (mkS T)), x, y, z, some (.int (pos T (rowF u)))], none⟩)
 | 0, _, _, h => absurd h (Nat.not_lt_zero _)
 | k + 1, [], hs, _ => w_stop (e_inT [[32], [9]] (e_slc (p_sl01 hf hs) rfl rfl (e_add rfl rfl)) rfl) rfl
 | k + 1, c :: r, hs, hl => by
  rw [rowF_eq]
  cases h : c == 32 || c == 9
  ·exact w_stop (e_inT [[32], [9]] (e_slc (p_sl01 hf hs) rfl rfl (e_add rfl rfl)) rfl) ((in_two c).trans h)
  ·exact (w_next (e_inT [[32], [9]] (e_slc (p_sl01 hf hs) rfl rfl (e_add rfl rfl)) rfl) ((in_two c).trans h) (x_augZ rfl rfl (pos1 ..))).trans (L11 hf k r (suf_tail hs) (by simpa using hl))
theorem f11r {r : List Nat} (hf : Fit T) (hK : 4001 <= K) (hs : (92 :: 10 :: r) <:+ T) : cfn K (d + 1) 11 [.str (mkS T), .int (pos T (92 :: 10 :: r))] = .ok (.d (.tuple [.str ⟨[32].toArray⟩, .int (pos T (rowF r))])) := by
 rw [c11]
 have hf' : T.length <= 4000 := hf
 have hsl := suf_le hs
 simp only [List.length_cons] at hsl
 have : exc (cfn K d) K cm11 ⟨[some (.str (mkS T)), some (.int (pos T (92 :: 10 :: r))), none, none, none], none⟩ = .ok (.ret (.d (.tuple [.str ⟨[32].toArray⟩, .int (pos T (rowF r))]))) := by
  refine s_set (e_slc (p_sl12 hf hs) rfl (e_add rfl rfl) (e_add rfl rfl)) ?_
  refine s_pass (t := false) rfl rfl (s_set (x := .int (-1)) rfl (s_pass (t := false) rfl rfl ?_))
  refine x_take (t := true) rfl rfl ?_
  refine s_set (e_addZ rfl rfl ((pos2 ..).trans (pos1 ..))) ?_
  exact s_wh (L11 hf K r (suf_tail (suf_tail hs)) (by lia)) (x_ret (e_tup2 rfl (e_v rfl)))
 rw [this]; rfl
theorem f11s {e : Nat} {r : List Nat} (hf : Fit T) (hs : (92 :: e :: r) <:+ T) (he : e = 125 \/ e = 34 \/ e = 36) : cfn K (d + 1) 11 [.str (mkS T), .int (pos T (92 :: e :: r))] = .ok (.d (.tuple [.str ⟨[e].toArray⟩, .int (pos T r)])) := by
 rw [c11]
 have : exc (cfn K d) K cm11 ⟨[some (.str (mkS T)), some (.int (pos T (92 :: e :: r))), none, none, none], none⟩ = .ok (.ret (.d (.tuple [.str ⟨[e].toArray⟩, .int (pos T r)]))) := by
  refine s_set (e_slc (p_sl12 hf hs) rfl (e_add rfl rfl) (e_add rfl rfl)) ?_
  rcases he with rfl | rfl | rfl
  ·exact s_pass (t := false) rfl rfl (s_set (x := .int (-1)) rfl (s_pass (t := false) rfl rfl (s_pass (t := false) rfl rfl (s_pass (t := false) rfl rfl (s_pass (t := false) rfl rfl (x_ret (e_tup2 rfl (e_addZ rfl rfl ((pos2 ..).trans (pos1 ..))))))))))
  ·exact s_pass (t := false) rfl rfl (s_set (x := .int (-1)) rfl (s_pass (t := false) rfl rfl (s_pass (t := false) rfl rfl (s_pass (t := false) rfl rfl (s_pass (t := false) rfl rfl (x_ret (e_tup2 rfl (e_addZ rfl rfl ((pos2 ..).trans (pos1 ..))))))))))
  ·exact s_pass (t := false) rfl rfl (s_set (x := .int (-1)) rfl (s_pass (t := false) rfl rfl (s_pass (t := false) rfl rfl (s_pass (t := false) rfl rfl (s_pass (t := false) rfl rfl (x_ret (e_tup2 rfl (e_addZ rfl rfl ((pos2 ..).trans (pos1 ..))))))))))
 rw [this]; rfl
end
section
variable {K d : Nat} {T : List Nat} {cf : Cfn} {σ : Sg}
theorem e_alnum {a : Ex} {c : Nat} (hc : c < 128) (ha : ev cf σ a = .ok (.d (.str ⟨[c].toArray⟩))) : ev cf σ (.me .isalnum a .nil) = .ok (.d (.bool (isAlnumA c))) := by
 show (ev cf σ a).bind _ = _
 rw [ha]
 show (if c < 128 then Rs.ok (PyData.bool (isAlnumA c)) else .stuck).bind _ = _
 rw [if_pos hc]; rfl
theorem e_alpha {a : Ex} {c : Nat} (hc : c < 128) (ha : ev cf σ a = .ok (.d (.str ⟨[c].toArray⟩))) : ev cf σ (.me .isalpha a .nil) = .ok (.d (.bool (isAlphaA c))) := by
 show (ev cf σ a).bind _ = _
 rw [ha]
 show (if c < 128 then Rs.ok (PyData.bool (isAlphaA c)) else .stuck).bind _ = _
 rw [if_pos hc]; rfl
theorem e_dig {a : Ex} {c : Nat} (hc : c < 128) (ha : ev cf σ a = .ok (.d (.str ⟨[c].toArray⟩))) : ev cf σ (.me .isdigit a .nil) = .ok (.d (.bool (isDigitA c))) := by
 show (ev cf σ a).bind _ = _
 rw [ha]
 show (if c < 128 then Rs.ok (PyData.bool (isDigitA c)) else .stuck).bind _ = _
 rw [if_pos hc]; rfl
theorem e_dig0 {a : Ex} (ha : ev cf σ a = .ok (.d (.str ⟨([] : List Nat).toArray⟩))) : ev cf σ (.me .isdigit a .nil) = .ok (.d (.bool false)) := by
 show (ev cf σ a).bind _ = _
 rw [ha]; rfl
theorem L42b (hf : Fit T) : ∀ (k : Nat) (u : List Nat), u <:+ T -> u.length < k ->
  loopW (fun σ => (ev cf σ (.and (.cons (.v 2) (.cons (.cmp .eq (.slSS (.v 0) (.v 1) (.bin .add (.v 1) (.int 1))) (.str ⟨#[58]⟩)) .nil)))).bind boolOf) (exc cf K (.set 1 (.bin .add (.v 1) (.int 1)))) k ⟨[some (.str (mkS T)), some (.int (pos T u)), some (.bool true)], none⟩ =
   .ok (.next ⟨[some (.str (mkS T)), some (.int (pos T (eatC u))), some (.bool true)], none⟩)
 | 0, _, _, h => absurd h (Nat.not_lt_zero _)
 | k + 1, [], hs, _ => w_stop (e_and2 rfl fun _ => e_eqS (y := [58]) (e_slc (p_sl01 hf hs) rfl rfl (e_add rfl rfl)) rfl) rfl
 | k + 1, c :: r, hs, hl => by
  rw [eatC_eq]
  cases h : c == 58
  ·exact w_stop (e_and2 (s := true) rfl fun _ => e_eqS (y := [58]) (e_slc (p_sl01 hf hs) rfl rfl (e_add rfl rfl)) rfl) (by simpa using h)
  ·exact (w_next (e_and2 (s := true) rfl fun _ => e_eqS (y := [58]) (e_slc (p_sl01 hf hs) rfl rfl (e_add rfl rfl)) rfl) (by simpa using h) (x_set (e_addZ rfl rfl (pos1 ..)))).trans (L42b hf k r (suf_tail hs) (by simpa using hl))
noncomputable abbrev B42 : Cm := .ite (.or (.cons (.me .isalnum (.idx (.v 0) (.v 1)) .nil) (.cons (.cmp .eq (.idx (.v 0) (.v 1)) (.str ⟨#[95]⟩)) .nil)))
 (.set 1 (.bin .add (.v 1) (.int 1))) (.ite (.cmp .eq (.slSS (.v 0) (.v 1) (.bin .add (.v 1) (.int 2))) (.str ⟨#[58, 58]⟩))
 (.seq (.set 1 (.bin .add (.v 1) (.int 2)))
 (.wh (.and (.cons (.v 2) (.cons (.cmp .eq (.slSS (.v 0) (.v 1) (.bin .add (.v 1) (.int 1))) (.str ⟨#[58]⟩)) .nil)))
 (.set 1 (.bin .add (.v 1) (.int 1))))) (.ret (.v 1)))
noncomputable abbrev C42 : Ex := .cmp .lt (.v 1) (.bi .len (.v 0))
noncomputable abbrev S42 (T u : List Nat) (n : Bool) : Sg := ⟨[some (.str (mkS T)), some (.int (pos T u)), some (.bool n)], none⟩
theorem ow42 {c : Nat} {r : List Nat} {n : Bool} (hf : Fit T) (hs : (c :: r) <:+ T) (hg : gd (c :: r) = true) : ev cf (S42 T (c :: r) n) (.or (.cons (.me .isalnum (.idx (.v 0) (.v 1)) .nil) (.cons (.cmp .eq (.idx (.v 0) (.v 1)) (.str ⟨#[95]⟩)) .nil))) = .ok (.d (.bool (wordc c))) :=
 (e_or2 (e_alnum (gd_lt hg) (e_idx hf hs rfl rfl)) fun _ => e_eqS (x := [c]) (y := [95]) (e_idx hf hs rfl rfl) rfl).trans (by rw [show ([c] == [95]) = (c == 95 && true) from rfl, Bool.and_true]; rfl)
theorem qw42 {c : Nat} {r : List Nat} {n : Bool} (hf : Fit T) : ev cf (S42 T (c :: r) n) C42 = .ok (.d (.bool true)) := by
 rw [<- lt_cons T c r]; exact e_lt rfl (e_len hf rfl)
theorem tw42 {r : List Nat} {n : Bool} (hf : Fit T) (hK : 4001 <= K) (hs : (58 :: 58 :: r) <:+ T) (hg : gd (58 :: 58 :: r) = true) : exc cf K B42 (S42 T (58 :: 58 :: r) n) = .ok (.next (S42 T (if n then eatC r else r) n)) := by
 have hs' := suf_tail (suf_tail hs)
 refine s_F (ow42 hf hs hg) rfl (s_T (e_eqS (y := [58, 58]) (e_slc (p_sl02 hf hs) rfl rfl (e_add rfl rfl)) rfl) rfl (s_set (e_addZ rfl rfl ((pos2 ..).trans (pos1 ..))) ?_))
 cases n
 ·obtain ⟨K, rfl⟩ : ∃ E, K = E + 1 := ⟨K - 1, (Nat.sub_add_cancel (Nat.le_trans (by decide) hK)).symm⟩
  exact w_stop (t := false) rfl rfl
 ·exact L42b hf K r hs' (Nat.lt_of_lt_of_le (Nat.lt_succ_of_le (Nat.le_trans (suf_le hs') hf)) hK)
theorem nm_two2 {n : Bool} {r : List Nat} : nmF n false (58 :: 58 :: r) = nmF n false (if n then eatC r else r) := by
 cases n
 ·rfl
 ·exact nm_eat r
theorem if_suf {n : Bool} {r : List Nat} : (if n then eatC r else r) <:+ r := by
 cases n
 ·exact List.suffix_refl _
 ·exact eat_suf r
theorem L42 (hf : Fit T) (hK : 4001 <= K) (n : Bool) (k : Nat) : ∀ (u : List Nat), u <:+ T -> gd u = true -> u.length < k -> EndN (Lp cf K C42 B42 k (S42 T u n)) (S42 T (nmF n false u) n) (.d (.int (pos T (nmF n false u)))) := by
 induction k with
 | zero => exact fun _ _ _ h => absurd h (Nat.not_lt_zero _)
 | succ k ih =>
 intro u hs hg hl
 cases u with
 | nil => exact Or.inl (w_stop (e_lt rfl (e_len hf rfl)) (lt_nil T))
 | cons c r =>
 have hl' := Nat.lt_of_succ_lt_succ hl
 cases hw : wordc c
 ·by_cases h3 : c = 58 /\ ∃ r', r = 58 :: r'
  ·obtain ⟨rfl, r', rfl⟩ := h3
   rw [nm_two2]
   exact .step (w_next (qw42 hf) rfl (tw42 hf hK hs hg)) (ih _ (if_suf.trans (suf_tail (suf_tail hs))) (gd_suf if_suf (gd_tail (gd_tail hg))) (Nat.lt_of_le_of_lt if_suf.length_le (Nat.lt_of_succ_lt hl')))
  ·rw [nm_stay hw h3]
   exact Or.inr (w_ret (qw42 hf) rfl (s_F (ow42 hf hs hg) hw (s_F (e_eqS (y := [58, 58]) (e_slc (p_sl02 hf hs) rfl rfl (e_add rfl rfl)) rfl) (two_ne h3) (x_ret (e_v rfl)))))
 ·rw [nm_word hw]
  exact .step (w_next (qw42 hf) rfl (s_T (ow42 hf hs hg) hw (x_set (e_addZ rfl rfl (pos1 ..))))) (ih r (suf_tail hs) (gd_tail hg) hl')
theorem f42 {u : List Nat} {n : Bool} (hf : Fit T) (hK : 4001 <= K) (hs : u <:+ T) (hg : gd u = true) : cfn K (d + 1) 42 [.str (mkS T), .int (pos T u), .bool n] = .ok (.d (.int (pos T (nmF n false u)))) := by
 rw [c42]
 have hf' : T.length <= 4000 := hf
 have hsl := suf_le hs
 have : exc (cfn K d) K cm42 ⟨[some (.str (mkS T)), some (.int (pos T u)), some (.bool n)], none⟩ = .ok (.ret (.d (.int (pos T (nmF n false u))))) := x_seqEnd (L42 hf hK n K u hs hg (by lia)) (x_ret (e_v rfl))
 rw [this]
 rfl
theorem find_dropC (x : Nat) : ∀ u : List Nat, u.findIdx? (· == x) = if dropC x u = [] then none else some (u.length - (dropC x u).length)
 | [] => rfl
 | c :: r => by
  rw [List.findIdx?_cons]
  rw [dropC_eq]
  cases h : c == x
  ·simp only [Bool.false_eq_true, if_false]
   rw [find_dropC x r]
   by_cases hd : dropC x r = []
   ·rw [if_pos hd, if_pos hd]; rfl
   ·rw [if_neg hd, if_neg hd]
    have := (dropL_suf (x := x) r).length_le
    exact congrArg some (Nat.succ_sub this).symm
  ·rw [if_pos rfl, if_neg (by simp), if_pos rfl]
   simp
theorem dropC_snoc (x : Nat) : ∀ u : List Nat, dropC x (u ++ [x]) = dropC x u ++ [x]
 | [] => by simp [dropC]
 | c :: r => by
  rw [List.cons_append]
  rw [dropC_eq, dropC_eq]
  cases h : c == x
  ·exact dropC_snoc x r
  ·rfl
theorem find_from {u T : List Nat} (hs : u <:+ T) (x : Nat) : findFrom (mkS T) x (T.length - u.length) = if dropC x u = [] then none else some (T.length - (dropC x u).length) := by
 unfold findFrom
 show ((T.drop (T.length - u.length)).findIdx? (· == x)).map _ = _
 rw [suf_drop hs, find_dropC]
 have h1 := suf_le hs
 have h2 := (dropL_suf (x := x) u).length_le
 by_cases hd : dropC x u = []
 ·rw [if_pos hd, if_pos hd]; rfl
 ·rw [if_neg hd, if_neg hd]
  show some (_ + _) = some _
  rw [Nat.add_comm, Nat.sub_add_sub_cancel h1 h2]
theorem from_eq {n : Nat} {y : PyData} : fromD n [y] = (intD y).bind fun i => if okN i && decide (i.toNat <= n) then .ok i.toNat else .stuck := rfl
theorem fd_eq {s : Str} {x : Nat} {r : List PyData} : findD s (.str ⟨[x].toArray⟩ :: r) = if s.cps.size <= big then (fromD s.cps.size r).bind fun i => .ok (findFrom s x i) else .stuck := rfl
theorem fd_one {s : Str} {x : Nat} (h : s.cps.size <= big) : findD s [.str ⟨[x].toArray⟩] = .ok (findFrom s x 0) := by
 rw [fd_eq, if_pos h]; rfl
theorem fd_two {u T : List Nat} {x : Nat} (hl : T.length <= 4001) (hs : u <:+ T) : findD (mkS T) [.str ⟨[x].toArray⟩, .int (pos T u)] = .ok (if dropC x u = [] then none else some (T.length - (dropC x u).length)) := by
 have hz : T.length - u.length <= (mkS T).cps.size := Nat.sub_le _ _
 rw [fd_eq, if_pos (Nat.le_trans (show (mkS T).cps.size <= 4001 from hl) (by decide)), from_eq, int_eq, rb, pos_nat hs, if_pos (by rw [okN_nat (by lia), Int.toNat_natCast, decide_eq_true hz]; rfl), Int.toNat_natCast, rb, find_from hs]
theorem m_index {u T : List Nat} {x : Nat} (hl : T.length <= 4001) (hs : u <:+ T) (h : dropC x u ≠ []) : meD .index (.str (mkS T)) [.str ⟨[x].toArray⟩, .int (pos T u)] = .ok (.int (pos T (dropC x u))) := by
 show (findD (mkS T) [.str ⟨[x].toArray⟩, .int (pos T u)]).bind _ = _
 rw [fd_two hl hs, if_neg h, pos_nat (List.IsSuffix.trans (dropL_suf (x := x) u) hs)]; rfl
theorem m_find {u T : List Nat} {x : Nat} (hl : T.length <= 4001) (hs : u <:+ T) : meD .find (.str (mkS T)) [.str ⟨[x].toArray⟩, .int (pos T u)] = .ok (.int (if dropC x u = [] then -1 else pos T (dropC x u))) := by
 show (findD (mkS T) [.str ⟨[x].toArray⟩, .int (pos T u)]).bind _ = _
 rw [fd_two hl hs, pos_nat (List.IsSuffix.trans (dropL_suf (x := x) u) hs)]
 by_cases hd : dropC x u = []
 ·rw [if_pos hd, if_pos hd]; rfl
 ·rw [if_neg hd, if_neg hd]; rfl
theorem e_me2 {m : Me} {o a b : Ex} {s : Str} {x y z : PyData} (ho : ev cf σ o = .ok (.d (.str s))) (ha : ev cf σ a = .ok (.d x)) (hb : ev cf σ b = .ok (.d y)) (h : meD m (.str s) [x, y] = .ok z) : ev cf σ (.me m o (.cons a (.cons b .nil))) = .ok (.d z) := by
 show (ev cf σ o).bind _ = _
 rw [ho]
 show (((ev cf σ a).bind _)).bind _ = _
 rw [ha]
 show (((ev cf σ b).bind _).bind _).bind _ = _
 rw [hb]
 show (meD m (.str s) [x, y]).bind _ = _
 rw [h]; rfl
theorem e_me1 {m : Me} {o a : Ex} {s : Str} {x z : PyData} (ho : ev cf σ o = .ok (.d (.str s))) (ha : ev cf σ a = .ok (.d x)) (h : meD m (.str s) [x] = .ok z) : ev cf σ (.me m o (.cons a .nil)) = .ok (.d z) := by
 show (ev cf σ o).bind _ = _
 rw [ho]
 show (((ev cf σ a).bind _)).bind _ = _
 rw [ha]
 show (meD m (.str s) [x]).bind _ = _
 rw [h]; rfl
noncomputable abbrev B43 : Cm := .ite (.cmp .in_ (.idx (.v 0) (.v 1)) (.str ⟨#[32, 9, 10]⟩))
 (.set 1 (.bin .add (.v 1) (.int 1))) (.ite (.cmp .eq (.slSS (.v 0) (.v 1) (.bin .add (.v 1) (.int 2))) (.str ⟨#[92, 10]⟩))
 (.set 1 (.bin .add (.v 1) (.int 2))) (.ite (.cmp .eq (.idx (.v 0) (.v 1)) (.str ⟨#[35]⟩))
 (.set 1 (.me .index (.bin .add (.v 0) (.str ⟨#[10]⟩)) (.cons (.str ⟨#[10]⟩) (.cons (.v 1) .nil)))) (.ret (.v 1))))
theorem in_three (c : Nat) : [32, 9, 10].contains c = blankc c := by
 unfold blankc
 by_cases q1 : c = 32 <;> by_cases q2 : c = 9 <;> by_cases q3 : c = 10 <;> simp [q1, q2, q3]
theorem pos_snoc (T u : List Nat) (x : Nat) : pos (T ++ [x]) (u ++ [x]) = pos T u := by
 unfold pos; rw [List.length_append, List.length_append]; simp only [List.length_cons, List.length_nil]; lia
theorem suf_snoc {u T : List Nat} (h : u <:+ T) (x : Nat) : (u ++ [x]) <:+ (T ++ [x]) := by
 obtain ⟨p, rfl⟩ := h
 exact ⟨p, by rw [List.append_assoc]⟩
theorem q43 {c : Nat} {r : List Nat} (hf : Fit T) : ev cf (S2 T (c :: r)) C42 = .ok (.d (.bool true)) := by
 rw [<- lt_cons T c r]; exact e_lt rfl (e_len hf rfl)
theorem i43 {c : Nat} {r : List Nat} {b : Bool} (hf : Fit T) (hs : (c :: r) <:+ T) (hb : blankc c = b) : ev cf (S2 T (c :: r)) (.cmp .in_ (.idx (.v 0) (.v 1)) (.str ⟨#[32, 9, 10]⟩)) = .ok (.d (.bool b)) := (e_inS (y := [32, 9, 10]) (e_idx hf hs rfl rfl) rfl).trans (by rw [in_three, hb])
theorem t43 {r : List Nat} (hf : Fit T) (hs : (35 :: r) <:+ T) : exc cf K B43 (S2 T (35 :: r)) = .ok (.next (S2 T (dropL r))) := by
 refine s_F (i43 hf hs rfl) rfl (s_F (e_eqS (y := [92, 10]) (e_slc (p_sl02 hf hs) rfl rfl (e_add rfl rfl)) rfl) (two_ne fun q => nomatch q.1) (s_T (e_eqS (x := [35]) (y := [35]) (e_idx hf hs rfl rfl) rfl) rfl (x_set (e_me2 (e_cat (y := [10]) rfl rfl (Nat.le_trans (Nat.succ_le_succ hf) (by decide))) rfl rfl ?_))))
 have hm := m_index (T := T ++ [10]) (u := 35 :: r ++ [10]) (x := 10) (by rw [List.length_append]; exact Nat.succ_le_succ hf) (suf_snoc hs 10) (by rw [dropC_snoc]; exact fun q => nomatch (List.append_eq_nil_iff.mp q).2)
 rw [pos_snoc, dropC_snoc, pos_snoc] at hm
 exact hm
theorem L43 (hf : Fit T) (k : Nat) : ∀ (u : List Nat), u <:+ T -> gd u = true -> u.length < k -> EndN (Lp cf K C42 B43 k (S2 T u)) (S2 T (skipF false u)) (.d (.int (pos T (skipF false u)))) := by
 induction k with
 | zero => exact fun _ _ _ h => absurd h (Nat.not_lt_zero _)
 | succ k ih =>
 intro u hs hg hl
 cases u with
 | nil => exact Or.inl (w_stop (e_lt rfl (e_len hf rfl)) (lt_nil T))
 | cons c r =>
 have hl' := Nat.lt_of_succ_lt_succ hl
 cases hb : blankc c
 ·by_cases h3 : c = 92 /\ ∃ r', r = 10 :: r'
  ·obtain ⟨rfl, r', rfl⟩ := h3
   exact .step (w_next (q43 hf) rfl (s_F (i43 hf hs hb) rfl (s_T (e_eqS (y := [92, 10]) (e_slc (p_sl02 hf hs) rfl rfl (e_add rfl rfl)) rfl) rfl (x_set (e_addZ rfl rfl ((pos2 ..).trans (pos1 ..))))))) (ih r' (suf_tail (suf_tail hs)) (gd_tail (gd_tail hg)) (Nat.lt_of_succ_lt hl'))
  ·by_cases hq : (c == 35) = true
   ·obtain rfl := eq_of_beq hq
    rw [skip_rem]
    exact .step (w_next (q43 hf) rfl (t43 hf hs)) (ih (dropL r) ((dropL_suf r).trans (suf_tail hs)) (gd_suf (dropL_suf r) (gd_tail hg)) (Nat.lt_of_le_of_lt (dropL_suf r).length_le hl'))
   ·have hq := Bool.eq_false_iff.mpr hq
    rw [skip_stay hb hq h3]
    exact Or.inr (w_ret (q43 hf) rfl (s_F (i43 hf hs hb) rfl (s_F (e_eqS (y := [92, 10]) (e_slc (p_sl02 hf hs) rfl rfl (e_add rfl rfl)) rfl) (two_ne h3) (s_F (e_eqS (x := [c]) (y := [35]) (e_idx hf hs rfl rfl) rfl) (by rw [show ([c] == [35]) = (c == 35 && true) from rfl, hq]; rfl) (x_ret (e_v rfl))))))
 ·rw [skip_blank hb]
  exact .step (w_next (q43 hf) rfl (s_T (i43 hf hs hb) rfl (x_set (e_addZ rfl rfl (pos1 ..))))) (ih r (suf_tail hs) (gd_tail hg) hl')
theorem f43 {u : List Nat} (hf : Fit T) (hK : 4001 <= K) (hs : u <:+ T) (hg : gd u = true) : cfn K (d + 1) 43 [.str (mkS T), .int (pos T u)] = .ok (.d (.int (pos T (skipF false u)))) := by
 rw [c43]
 have hf' : T.length <= 4000 := hf
 have hsl := suf_le hs
 have : exc (cfn K d) K cm43 ⟨[some (.str (mkS T)), some (.int (pos T u))], none⟩ = .ok (.ret (.d (.int (pos T (skipF false u))))) := x_seqEnd (L43 hf K u hs hg (by lia)) (x_ret (e_v rfl))
 rw [this]
 rfl
end
noncomputable def txtP (l : List Nat) : PyData := .tuple [.str ⟨[116, 101, 120, 116].toArray⟩, .str ⟨l.toArray⟩]
noncomputable def cmdP (l : List Nat) : PyData := .tuple [.str ⟨[99, 109, 100].toArray⟩, .str ⟨l.toArray⟩]
noncomputable def stops8 : List (List Nat) := [[32], [9], [11], [12], [13], [10], [59], [93]]
noncomputable def spec3 (c : Nat) : Bool := [36, 91, 92].contains c
noncomputable def runP (st : List (List Nat)) : List Nat -> List Nat
 | [] => []
 | c :: r => if spec3 c || st.contains [c] then c :: r else runP st r
theorem runP_eq {st : List (List Nat)} {c : Nat} {r : List Nat} : runP st (c :: r) = if spec3 c || st.contains [c] then c :: r else runP st r := rfl
theorem runP_suf {st : List (List Nat)} : ∀ u : List Nat, runP st u <:+ u
 | [] => List.suffix_refl _
 | c :: r => by
  rw [runP_eq]
  split
  ·exact List.suffix_refl _
  ·exact List.IsSuffix.trans (runP_suf r) (List.suffix_cons c r)
section
variable {K d : Nat} {T : List Nat} {cf : Cfn} {σ : Sg}
theorem K_succ (hK : 4001 <= K) : ∃ K', K = K' + 1 := ⟨K - 1, by lia⟩
theorem f12 (c : Nat) : cfn K (d + 1) 12 [.str ⟨[c].toArray⟩] = .ok (.d (.bool ([[32], [9], [11], [12], [13]].contains [c]))) := by
 rw [c12]
 have : exc (cfn K d) K cm12 ⟨[some (.str ⟨[c].toArray⟩)], none⟩ = .ok (.ret (.d (.bool ([[32], [9], [11], [12], [13]].contains [c])))) := x_ret (e_inT [[32], [9], [11], [12], [13]] rfl rfl)
 rw [this]; rfl
noncomputable abbrev B13 : Cm := .ite (.call 12 (.cons (.idx (.v 0) (.v 1)) .nil))
 (.aug 1 .add (.int 1)) (.ite (.cmp .eq (.slSS (.v 0) (.v 1) (.bin .add (.v 1) (.int 2))) (.str ⟨#[92, 10]⟩))
 (.aug 1 .add (.int 2)) (.ret (.v 1)))
theorem b13 {c : Nat} {r : List Nat} (hf : Fit T) (hs : (c :: r) <:+ T) (h1 : [[32], [9], [11], [12], [13]].contains [c] = false) (h2 : c ≠ 92) :
  exc (cfn K (d + 1)) K B13 ⟨[some (.str (mkS T)), some (.int (pos T (c :: r)))], none⟩ = .ok (.ret (.d (.int (pos T (c :: r))))) :=
 s_F (e_call1 (e_idx hf hs rfl rfl) (f12 c)) h1 (s_F (e_eqS (y := [92, 10]) (e_slc (p_sl02 hf hs) rfl rfl (e_add rfl rfl)) rfl) (two_ne fun h => h2 h.1) (x_ret (e_v rfl)))
theorem q42 {cs : Nat} {r : List Nat} {l : List (Option PyData)} (hf : Fit T) : ev cf ⟨some (.str (mkS T)) :: some (.int (pos T (cs :: r))) :: l, none⟩ C42 = .ok (.d (.bool true)) := by
 rw [<- lt_cons T cs r]; exact e_lt rfl (e_len hf rfl)
theorem f13 {c : Nat} {r : List Nat} (hf : Fit T) (hK : 4001 <= K) (hs : (c :: r) <:+ T) (h1 : [[32], [9], [11], [12], [13]].contains [c] = false) (h2 : c ≠ 92) : cfn K (d + 2) 13 [.str (mkS T), .int (pos T (c :: r))] = .ok (.d (.int (pos T (c :: r)))) := by
 rw [c13]
 obtain ⟨K, rfl⟩ := K_succ hK
 have : exc (cfn (K + 1) (d + 1)) (K + 1) cm13 ⟨[some (.str (mkS T)), some (.int (pos T (c :: r)))], none⟩ = .ok (.ret (.d (.int (pos T (c :: r))))) := x_seqR (a := .wh C42 B13) (w_ret (q42 hf) rfl (b13 hf hs h1 h2))
 rw [this]; rfl
theorem f13s {c : Nat} {r : List Nat} (hf : Fit T) (hK : 4001 <= K) (hs : (32 :: c :: r) <:+ T) (h1 : [[32], [9], [11], [12], [13]].contains [c] = false) (h2 : c ≠ 92) : cfn K (d + 2) 13 [.str (mkS T), .int (pos T (32 :: c :: r))] = .ok (.d (.int (pos T (c :: r)))) := by
 rw [c13]
 obtain ⟨K, rfl⟩ : ∃ K', K = K' + 2 := ⟨K - 2, by lia⟩
 have hb : exc (cfn (K + 2) (d + 1)) (K + 2) B13 ⟨[some (.str (mkS T)), some (.int (pos T (32 :: c :: r)))], none⟩ = .ok (.next ⟨[some (.str (mkS T)), some (.int (pos T (c :: r)))], none⟩) := s_T (e_call1 (e_idx hf hs rfl rfl) (f12 32)) rfl (x_augZ rfl rfl (pos1 ..))
 have : exc (cfn (K + 2) (d + 1)) (K + 2) cm13 ⟨[some (.str (mkS T)), some (.int (pos T (32 :: c :: r)))], none⟩ = .ok (.ret (.d (.int (pos T (c :: r))))) := x_seqR (a := .wh C42 B13) ((w_next (q42 hf) rfl hb).trans (w_ret (q42 hf) rfl (b13 hf (suf_tail hs) h1 h2)))
 rw [this]; rfl
theorem f15 {c : Nat} {r : List Nat} (hf : Fit T) (hK : 4001 <= K) (hs : (c :: r) <:+ T) (h1 : [[32], [9], [11], [12], [13]].contains [c] = false) (h2 : c ≠ 92) (h3 : [[10], [59], [35]].contains [c] = false) : cfn K (d + 3) 15 [.str (mkS T), .int (pos T (c :: r))] = .ok (.d (.int (pos T (c :: r)))) := by
 rw [c15]
 have h13 := f13 (d := d) hf hK hs h1 h2
 obtain ⟨K, rfl⟩ := K_succ hK
 have : exc (cfn (K + 1) (d + 2)) (K + 1) cm15 ⟨[some (.str (mkS T)), some (.int (pos T (c :: r)))], none⟩ = .ok (.ret (.d (.int (pos T (c :: r))))) :=
  s_set (e_call2 rfl rfl h13) (s_wh (w_stop (e_inT [[10], [59], [35]] (e_slc (p_sl01 hf hs) rfl rfl (e_add rfl rfl)) rfl) h3) (x_ret (e_v rfl)))
 rw [this]; rfl
theorem f22 {c : Nat} {r : List Nat} (hf : Fit T) (hs : (c :: r) <:+ T) (h : c ≠ 123) : cfn K (d + 1) 22 [.str (mkS T), .int (pos T (c :: r))] = .ok (.d (.bool false)) := by
 rw [c22]
 have : exc (cfn K d) K cm22 ⟨[some (.str (mkS T)), some (.int (pos T (c :: r))), none], none⟩ = .ok (.ret (.d (.bool false))) := by
  refine x_take (e_neS (y := [123, 42, 125]) (e_slc (p_sl03 hf hs) rfl rfl (e_add rfl rfl)) rfl) ?_ (x_ret rfl)
  rw [Bool.not_eq_true', Bool.eq_false_iff]
  intro q
  simp only [beq_iff_eq, List.take_succ_cons, List.cons.injEq] at q
  exact h q.1
 rw [this]; rfl
theorem f21 : cfn K (d + 1) 21 [.bool true] = .ok (.d (tupS stops8)) := by
 rw [c21]; rfl
theorem L20b {st : List (List Nat)} {w : Option (List PyData)} {x4 x6 x7 x8 x9 : Option PyData} (hf : Fit T) : ∀ (k : Nat) (u : List Nat), u <:+ T -> u.length < k ->
  loopW (fun σ => (ev cf σ (.and (.cons (.cmp .lt (.v 1) (.v 5)) (.cons (.cmp .notIn (.idx (.v 0) (.v 1)) (.str ⟨#[36, 91, 92]⟩)) (.cons (.cmp .notIn (.idx (.v 0) (.v 1)) (.v 2)) .nil))))).bind boolOf) (exc cf K (.aug 1 .add (.int 1))) k
   ⟨[some (.str (mkS T)), some (.int (pos T u)), some (tupS st), none, x4, some (.int T.length), x6, x7, x8, x9], w⟩ =
   .ok (.next ⟨[some (.str (mkS T)), some (.int (pos T (runP st u))), some (tupS st), none, x4, some (.int T.length), x6, x7, x8, x9], w⟩)
 | 0, _, _, h => absurd h (Nat.not_lt_zero _)
 | k + 1, [], hs, _ => w_stop (e_and3 (t := false) (u := false) (e_lt rfl rfl) (fun h => by rw [lt_nil] at h; cases h) (fun h => by rw [lt_nil] at h; cases h)) (by rw [lt_nil]; rfl)
 | k + 1, c :: r, hs, hl => by
  have ht := e_and3 (cf := cf) (σ := ⟨[some (.str (mkS T)), some (.int (pos T (c :: r))), some (tupS st), none, x4, some (.int T.length), x6, x7, x8, x9], w⟩) (a := .cmp .lt (.v 1) (.v 5)) (b := .cmp .notIn (.idx (.v 0) (.v 1)) (.str ⟨#[36, 91, 92]⟩)) (c := .cmp .notIn (.idx (.v 0) (.v 1)) (.v 2)) (e_lt rfl rfl) (fun _ => e_niS (y := [36, 91, 92]) (e_idx hf hs rfl rfl) rfl) (fun _ _ => e_niT st (e_idx hf hs rfl rfl) rfl)
  rw [runP_eq]
  cases h : spec3 c || st.contains [c]
  ·have h' : spec3 c = false /\ st.contains [c] = false := by rwa [Bool.or_eq_false_iff] at h
   exact (w_next ht (by rw [lt_cons, h'.2]; show (true && (!spec3 c && true)) = true; rw [h'.1]; rfl) (x_augZ rfl rfl (pos1 ..))).trans (L20b hf k r (suf_tail hs) (by simpa using hl))
  ·refine w_stop ht ?_
   rw [lt_cons]
   show (true && (!spec3 c && !st.contains [c])) = false
   rw [Bool.true_and, <- Bool.not_or, h]; rfl
noncomputable abbrev B20 : Cm := .seq (.ite (.cmp .eq (.idx (.v 0) (.v 1)) (.str ⟨#[36]⟩))
 (.setT [6, 1] (.call 17 (.cons (.v 0) (.cons (.v 1) .nil)))) (.ite (.cmp .eq (.idx (.v 0) (.v 1)) (.str ⟨#[91]⟩))
 (.seq (.setT [7, 1] (.call 18 (.cons (.v 0) (.cons (.v 1) .nil))))
 (.set 6 (.tup (.cons (.str ⟨#[99, 109, 100]⟩) (.cons (.v 7) .nil))))) (.ite (.cmp .eq (.idx (.v 0) (.v 1)) (.str ⟨#[92]⟩))
 (.seq (.ite (.and (.cons (.cmp .in_ (.str ⟨#[32]⟩) (.v 2)) (.cons (.cmp .eq (.slSS (.v 0) (.bin .add (.v 1) (.int 1)) (.bin .add (.v 1) (.int 2))) (.str ⟨#[10]⟩)) .nil)))
 .brk .skip)
 (.seq (.setT [8, 1] (.call 11 (.cons (.v 0) (.cons (.v 1) .nil))))
 (.set 6 (.tup (.cons (.str ⟨#[116, 101, 120, 116]⟩) (.cons (.v 8) .nil)))))) (.seq (.set 9 (.v 1))
 (.seq (.wh (.and (.cons (.cmp .lt (.v 1) (.v 5)) (.cons (.cmp .notIn (.idx (.v 0) (.v 1)) (.str ⟨#[36, 91, 92]⟩)) (.cons (.cmp .notIn (.idx (.v 0) (.v 1)) (.v 2)) .nil))))
 (.aug 1 .add (.int 1)))
 (.set 6 (.tup (.cons (.str ⟨#[116, 101, 120, 116]⟩) (.cons (.slSS (.v 0) (.v 9) (.v 1)) .nil)))))))))
 (.ite (.cmp .eq (.idx (.v 6) (.int 0)) (.str ⟨#[116, 101, 120, 116]⟩))
 (.aug 4 .add (.idx (.v 6) (.int 1))) (.seq (.ite (.cmp .ne (.v 4) (.str ⟨#[]⟩))
 (.seq (.push (.tup (.cons (.str ⟨#[116, 101, 120, 116]⟩) (.cons (.v 4) .nil))))
 (.set 4 (.str ⟨#[]⟩))) .skip)
 (.push (.v 6))))
noncomputable abbrev C20 : Ex := .and (.cons (.cmp .lt (.v 1) (.v 5)) (.cons (.cmp .notIn (.idx (.v 0) (.v 1)) (.v 2)) .nil))
theorem c20c {c : Nat} {r : List Nat} {st : List (List Nat)} {w : Option (List PyData)} {x4 : Option PyData} {l : List (Option PyData)} (hf : Fit T) (hs : (c :: r) <:+ T) :
  ev cf ⟨some (.str (mkS T)) :: some (.int (pos T (c :: r))) :: some (tupS st) :: none :: x4 :: some (.int T.length) :: l, w⟩ C20 = .ok (.d (.bool (!st.contains [c]))) := by
 refine (e_and2 (e_lt rfl rfl) fun _ => e_niT st (e_idx hf hs rfl rfl) rfl).trans ?_
 rw [lt_cons]; rfl
theorem b20p {c : Nat} {r : List Nat} {st : List (List Nat)} {P : List PyData} {R : List Nat} {x6 x7 x8 x9 : Option PyData} (hf : Fit T) (hK : 4001 <= K) (hs : (c :: r) <:+ T) (hc : spec3 c = false) (hR : R.length <= 10000) :
  exc cf K B20 ⟨[some (.str (mkS T)), some (.int (pos T (c :: r))), some (tupS st), none, some (.str ⟨R.toArray⟩), some (.int T.length), x6, x7, x8, x9], some P⟩ =
   .ok (.next ⟨[some (.str (mkS T)), some (.int (pos T (runP st (c :: r)))), some (tupS st), none, some (.str ⟨(R ++ dif (c :: r) (runP st (c :: r))).toArray⟩), some (.int T.length), some (txtP (dif (c :: r) (runP st (c :: r)))), x7, x8, some (.int (pos T (c :: r)))], some P⟩) := by
 have hf' : T.length <= 4000 := hf
 have hsl := suf_le hs
 have n1 : ([c] == [36]) = false /\ ([c] == [91]) = false /\ ([c] == [92]) = false := by
  unfold spec3 at hc
  simp at hc
  simp [hc.1, hc.2.1, hc.2.2]
 refine s_seq (σ' := ⟨[some (.str (mkS T)), some (.int (pos T (runP st (c :: r)))), some (tupS st), none, some (.str ⟨R.toArray⟩), some (.int T.length), some (txtP (dif (c :: r) (runP st (c :: r)))), x7, x8, some (.int (pos T (c :: r)))], some P⟩) ?_ ?_
 ·refine s_F (e_eqS (x := [c]) (y := [36]) (e_idx hf hs rfl rfl) rfl) n1.1 (s_F (e_eqS (x := [c]) (y := [91]) (e_idx hf hs rfl rfl) rfl) n1.2.1 (s_F (e_eqS (x := [c]) (y := [92]) (e_idx hf hs rfl rfl) rfl) n1.2.2 ?_))
  exact s_set rfl (s_wh (L20b hf K (c :: r) hs (by lia)) (x_set (e_tup2 rfl (e_slc (p_slTo hf hs (runP_suf _)) rfl rfl rfl))))
 ·refine s_T (e_eqS (x := [116, 101, 120, 116]) (y := [116, 101, 120, 116]) rfl rfl) rfl (x_augS rfl rfl ?_)
  exact Nat.le_trans (Nat.add_le_add hR (Nat.le_trans (Nat.le_trans (Nat.le_trans (List.length_take_le _ _) (Nat.sub_le _ _)) hsl) hf')) (by decide)
theorem e_ownTup {xs : List PyData} (h : σ.own = some xs) (hl : xs.length <= 10000) : ev cf σ .ownTup = .ok (.d (.tuple xs)) := by
 show Rs.opt σ.own _ = _
 rw [h]
 show (if xs.length <= big then _ else _) = _
 rw [if_pos (Nat.le_trans hl (by decide))]
theorem f20one {c x : Nat} {r : List Nat} (hf : Fit T) (hK : 4001 <= K) (hs : (c :: x :: r) <:+ T) (hc : spec3 c = false) (h1 : stops8.contains [c] = false) (h2 : stops8.contains [x] = true) :
  cfn K (d + 1) 20 [.str (mkS T), .int (pos T (c :: x :: r)), tupS stops8] = .ok (.d (.tuple [.tuple [txtP [c]], .int (pos T (x :: r))])) := by
 rw [c20]
 have hr : runP stops8 (c :: x :: r) = x :: r := by
  rw [runP_eq]
  rw [hc, h1]
  show runP stops8 (x :: r) = x :: r
  rw [runP_eq]
  rw [h2, Bool.or_true]; rfl
 have hd : dif (c :: x :: r) (x :: r) = [c] := dif_append [c] (x :: r)
 have hb := b20p (K := K) (cf := cfn K d) (st := stops8) (P := []) (R := []) (x6 := none) (x7 := none) (x8 := none) (x9 := none) hf hK hs hc (by decide)
 rw [hr, hd] at hb
 obtain ⟨K, rfl⟩ : ∃ K', K = K' + 2 := ⟨K - 2, by lia⟩
 have : exc (cfn (K + 2) d) (K + 2) cm20 ⟨[some (.str (mkS T)), some (.int (pos T (c :: x :: r))), some (tupS stops8), none, none, none, none, none, none, none], none⟩ = .ok (.ret (.d (.tuple [.tuple [txtP [c]], .int (pos T (x :: r))]))) := by
  refine s_seq rfl (s_set rfl (s_set (e_len hf rfl) (s_wh (σ' := ⟨[some (.str (mkS T)), some (.int (pos T (x :: r))), some (tupS stops8), none, some (.str ⟨[c].toArray⟩), some (.int T.length), some (txtP [c]), none, none, some (.int (pos T (c :: x :: r)))], some []⟩) ?_ ?_)))
  ·refine (w_next (c := C20) (c20c hf hs) (by rw [h1]; rfl) hb).trans ?_
   exact w_stop (c := C20) (c20c hf (suf_tail hs)) (by rw [h2]; rfl)
  ·refine s_seq (s_T (e_neS (x := [c]) (y := []) rfl rfl) rfl (x_push rfl (e_tup2 rfl rfl) (by decide))) ?_
   exact x_ret (e_tup2 (e_ownTup rfl (by show 1 <= _; decide)) rfl)
 rw [this]; rfl
theorem f23one {c x : Nat} {r : List Nat} (hf : Fit T) (hK : 4001 <= K) (hs : (c :: x :: r) <:+ T) (hc : spec3 c = false) (h1 : stops8.contains [c] = false) (h2 : stops8.contains [x] = true) (h3 : c ≠ 123) (h4 : c ≠ 34) :
  cfn K (d + 2) 23 [.str (mkS T), .int (pos T (c :: x :: r)), .bool true] = .ok (.d (.tuple [.tuple [.bool false, .tuple [txtP [c]]], .int (pos T (x :: r))])) := by
 rw [c23]
 have : exc (cfn K (d + 1)) K cm23 ⟨[some (.str (mkS T)), some (.int (pos T (c :: x :: r))), some (.bool true), none, none, none, none, none, none], none⟩ = .ok (.ret (.d (.tuple [.tuple [.bool false, .tuple [txtP [c]]], .int (pos T (x :: r))]))) := by
  refine s_set (e_call2 rfl rfl (f22 hf hs h3)) (s_pass (t := false) rfl rfl (s_set (e_slc (p_sl01 hf hs) rfl rfl (e_add rfl rfl)) ?_))
  refine s_pass (e_eqS (x := [c]) (y := [123]) rfl rfl) (by simpa using h3) (s_pass (e_eqS (x := [c]) (y := [34]) rfl rfl) (by simpa using h4) ?_)
  refine s_setT (e_call3 rfl rfl (e_call1 rfl f21) (f20one hf hK hs hc h1 h2)) rfl ?_
  exact x_ret (e_tup2 (e_tup2 rfl rfl) rfl)
 rw [this]; rfl
end
section
variable {K d : Nat} {T : List Nat} {cf : Cfn} {σ : Sg}
theorem pos_ne {u v : List Nat} (h : u.length ≠ v.length) : decide (pos T u = pos T v) = false := by
 rw [decide_eq_false_iff_not, pos_eq]; exact h
noncomputable abbrev B24 : Cm := .seq (.setT [7, 8] (.call 23 (.cons (.v 0) (.cons (.v 6) (.cons (.v 2) .nil)))))
 (.seq (.push (.v 7))
 (.seq (.set 6 (.call 13 (.cons (.v 0) (.cons (.v 8) .nil))))
 (.seq (.ite (.cmp .ge (.v 6) (.v 4))
 (.ret (.tup (.cons .ownTup (.cons (.v 3) (.cons (.v 8) (.cons (.v 4) .nil)))))) .skip)
 (.seq (.ite (.cmp .in_ (.idx (.v 0) (.v 6)) (.tup (.cons (.str ⟨#[10]⟩) (.cons (.str ⟨#[59]⟩) .nil))))
 (.ret (.tup (.cons .ownTup (.cons (.v 3) (.cons (.v 8) (.cons (.bin .add (.v 6) (.int 1)) .nil)))))) .skip)
 (.seq (.ite (.and (.cons (.v 2) (.cons (.cmp .eq (.idx (.v 0) (.v 6)) (.str ⟨#[93]⟩)) .nil)))
 (.ret (.tup (.cons .ownTup (.cons (.v 3) (.cons (.v 8) (.cons (.v 6) .nil)))))) .skip)
 (.ite (.cmp .eq (.v 6) (.v 8))
 (.seq (.ite (.cmp .eq (.idx (.v 0) (.bin .sub (.v 8) (.int 1))) (.str ⟨#[34]⟩))
 (.raise (.call 2 (.cons (.str ⟨#[101, 120, 116, 114, 97, 32, 99, 104, 97, 114, 97, 99, 116, 101, 114, 115, 32, 97, 102, 116, 101, 114, 32, 99, 108, 111, 115, 101, 45, 113, 117, 111, 116, 101]⟩) .nil))) .skip)
 (.raise (.call 2 (.cons (.str ⟨#[101, 120, 116, 114, 97, 32, 99, 104, 97, 114, 97, 99, 116, 101, 114, 115, 32, 97, 102, 116, 101, 114, 32, 99, 108, 111, 115, 101, 45, 98, 114, 97, 99, 101]⟩) .nil)))) .skip))))))
theorem f24 {r : List Nat} (hf : Fit T) (hK : 4001 <= K) (hs : (102 :: 32 :: 49 :: 93 :: r) <:+ T) :
  ∃ x y z, cfn K (d + 4) 24 [.str (mkS T), .int (pos T (102 :: 32 :: 49 :: 93 :: r)), .bool true] = .ok (.d (.tuple [x, y, z, .int (pos T (93 :: r))])) := by
 rw [c24]
 have hs2 := suf_tail hs
 have hs3 := suf_tail hs2
 have hs4 := suf_tail hs3
 have g15 := f15 (d := d) hf hK hs rfl (by decide) rfl
 have g23 := f23one (d := d + 1) hf hK hs rfl rfl rfl (by decide) (by decide)
 have g13 := f13s (d := d + 1) hf hK hs2 rfl (by decide)
 have g23' := f23one (d := d + 1) hf hK hs3 rfl rfl rfl (by decide) (by decide)
 have g13' := f13 (d := d + 1) hf hK hs4 rfl (by decide)
 obtain ⟨K, rfl⟩ : ∃ K', K = K' + 2 := ⟨K - 2, by lia⟩
 have : exc (cfn (K + 2) (d + 3)) (K + 2) cm24 ⟨[some (.str (mkS T)), some (.int (pos T (102 :: 32 :: 49 :: 93 :: r))), some (.bool true), none, none, none, none, none, none], none⟩ =
   .ok (.ret (.d (.tuple [.tuple [.tuple [.bool false, .tuple [txtP [102]]], .tuple [.bool false, .tuple [txtP [49]]]], .int (pos T (102 :: 32 :: 49 :: 93 :: r)), .int (pos T (93 :: r)), .int (pos T (93 :: r))]))) := by
  refine s_set (e_call2 rfl rfl g15) (s_set (e_len hf rfl) (s_pass (e_or2 (e_ge rfl rfl) fun _ => e_and2 (s := true) rfl fun _ => e_eqS (x := [102]) (y := [93]) (e_idx hf hs rfl rfl) rfl) (by rw [ge_cons]; rfl) (s_seq rfl (s_set rfl ?_))))
  refine (w_next (c := .bool true) (t := true) (body := exc _ _ B24) rfl rfl (σ' := ⟨[some (.str (mkS T)), some (.int (pos T (102 :: 32 :: 49 :: 93 :: r))), some (.bool true), some (.int (pos T (102 :: 32 :: 49 :: 93 :: r))), some (.int T.length), none, some (.int (pos T (49 :: 93 :: r))), some (.tuple [.bool false, .tuple [txtP [102]]]), some (.int (pos T (32 :: 49 :: 93 :: r)))], some [.tuple [.bool false, .tuple [txtP [102]]]]⟩) ?_).trans ?_
  ·refine s_setT (e_call3 rfl rfl rfl g23) rfl (s_seq (x_push rfl rfl (by decide)) (s_set (e_call2 rfl rfl g13) ?_))
   refine s_pass (e_ge rfl rfl) (ge_cons ..) (s_pass (e_inT [[10], [59]] (e_idx hf hs3 rfl rfl) rfl) rfl (s_pass (e_and2 (s := true) rfl fun _ => e_eqS (x := [49]) (y := [93]) (e_idx hf hs3 rfl rfl) rfl) rfl (s_F (e_eqI rfl rfl) ?_ rfl)))
   exact pos_ne (by simp)
  ·refine w_ret (c := .bool true) (t := true) (body := exc _ _ B24) rfl rfl ?_
   refine s_setT (e_call3 rfl rfl rfl g23') rfl (s_seq (x_push rfl rfl (by show 1 <= _; decide)) (s_set (e_call2 rfl rfl g13') ?_))
   refine s_pass (e_ge rfl rfl) (ge_cons ..) (s_pass (e_inT [[10], [59]] (e_idx hf hs4 rfl rfl) rfl) rfl (x_take (e_and2 (s := true) rfl fun _ => e_eqS (x := [93]) (y := [93]) (e_idx hf hs4 rfl rfl) rfl) rfl (x_ret (e_tup4 (e_ownTup rfl (by show 2 <= _; decide)) rfl rfl rfl))))
 rw [this]
 exact ⟨_, _, _, rfl⟩
theorem f18 {r : List Nat} (hf : Fit T) (hK : 4001 <= K) (hs : (91 :: r) <:+ T) (hg : gd (91 :: r) = true) :
  ∃ r', dropC 93 r = 93 :: r' /\ cfn K (d + 5) 18 [.str (mkS T), .int (pos T (91 :: r))] = .ok (.d (.tuple [.str ⟨(dif r (93 :: r')).toArray⟩, .int (pos T r')])) := by
 rcases gd_br hg with ⟨r', rfl⟩ | ⟨r', rfl⟩
 ·refine ⟨r', rfl, ?_⟩
  rw [c18]
  have g15 := f15 (d := d + 1) hf hK (suf_tail hs) rfl (by decide) rfl
  obtain ⟨K, rfl⟩ := K_succ hK
  have : exc (cfn (K + 1) (d + 4)) (K + 1) cm18 ⟨[some (.str (mkS T)), some (.int (pos T (91 :: 93 :: r'))), none, none, none], none⟩ = .ok (.ret (.d (.tuple [.str ⟨(dif (93 :: r') (93 :: r')).toArray⟩, .int (pos T r')]))) := by
   refine s_set (e_addZ rfl rfl (pos1 ..)) (s_set (e_call2 rfl rfl g15) (s_wh (w_stop (e_and2 (e_lt rfl (e_len hf rfl)) fun _ => e_neS (x := [93]) (y := [93]) (e_idx hf (suf_tail hs) rfl rfl) rfl) (by rw [lt_cons]; rfl)) ?_))
   exact s_pass (e_ge rfl (e_len hf rfl)) (ge_cons ..) (x_ret (e_tup2 (e_slc (p_slTo hf (suf_tail hs) (List.suffix_refl _)) rfl rfl rfl) (e_addZ rfl rfl (pos1 ..))))
  rw [this]; rfl
 ·refine ⟨r', rfl, ?_⟩
  rw [c18]
  have hs1 := suf_tail hs
  have hs4 := suf_tail (suf_tail (suf_tail hs1))
  have g15 := f15 (d := d + 1) hf hK hs1 rfl (by decide) rfl
  have g15' := f15 (d := d + 1) hf hK hs4 rfl (by decide) rfl
  obtain ⟨x, y, z, g24⟩ := f24 (d := d) hf hK hs1
  obtain ⟨K, rfl⟩ : ∃ K', K = K' + 2 := ⟨K - 2, by lia⟩
  have : exc (cfn (K + 2) (d + 4)) (K + 2) cm18 ⟨[some (.str (mkS T)), some (.int (pos T (91 :: 102 :: 32 :: 49 :: 93 :: r'))), none, none, none], none⟩ = .ok (.ret (.d (.tuple [.str ⟨(dif (102 :: 32 :: 49 :: 93 :: r') (93 :: r')).toArray⟩, .int (pos T r')]))) := by
   refine s_set (e_addZ rfl rfl (pos1 ..)) (s_set (e_call2 rfl rfl g15) (s_wh (σ' := ⟨[some (.str (mkS T)), some (.int (pos T (91 :: 102 :: 32 :: 49 :: 93 :: r'))), some (.int (pos T (102 :: 32 :: 49 :: 93 :: r'))), some (.int (pos T (93 :: r'))), some (.tuple [x, y, z, .int (pos T (93 :: r'))])], none⟩) ?_ ?_))
   ·refine (w_next (e_and2 (e_lt rfl (e_len hf rfl)) fun _ => e_neS (x := [102]) (y := [93]) (e_idx hf hs1 rfl rfl) rfl) (by rw [lt_cons]; rfl) (s_set (e_call3 rfl rfl rfl g24) (x_set (e_call2 rfl rfl g15')))).trans ?_
    exact w_stop (e_and2 (e_lt rfl (e_len hf rfl)) fun _ => e_neS (x := [93]) (y := [93]) (e_idx hf hs4 rfl rfl) rfl) (by rw [lt_cons]; rfl)
   ·exact s_pass (e_ge rfl (e_len hf rfl)) (ge_cons ..) (x_ret (e_tup2 (e_slc (p_slTo hf hs1 ⟨[102, 32, 49], rfl⟩) rfl rfl rfl) (e_addZ rfl rfl (pos1 ..))))
  rw [this]; rfl
end
noncomputable def msgB : List Nat := [109, 105, 115, 115, 105, 110, 103, 32, 99, 108, 111, 115, 101, 45, 98, 114, 97, 99, 101, 32, 102, 111, 114, 32, 118, 97, 114, 105, 97, 98, 108, 101, 32, 110, 97, 109, 101]
noncomputable def msgP : List Nat := [109, 105, 115, 115, 105, 110, 103, 32, 41]
noncomputable def varP (l : List Nat) (x : PyData) : PyData := .tuple [.str ⟨[118, 97, 114].toArray⟩, .str ⟨l.toArray⟩, x]
noncomputable def flush (P : List PyData) (R : List Nat) : List PyData := if R = [] then P else P ++ [txtP R]
mutual
noncomputable def dolF : Nat -> List Nat -> Except (List Nat) (Option (List Nat × PyData) × List Nat)
 | 0, _ => .error []
 | f + 1, r =>
  if r.take 1 == [123] then
   (match dropC 125 r with
   | [] => .error msgB
   | _ :: e => .ok (some (dif (r.drop 1) (125 :: e), .none), e))
  else if (nmF true false r).take 1 == [40] then
   (match fillF f 41 [] [] ((nmF true false r).drop 1) with
   | .error m => .error m
   | .ok (_, []) => .error msgP
   | .ok (ps, _ :: e) => .ok (some (dif r (nmF true false r), .tuple ps), e))
  else if (nmF true false r).length == r.length then .ok (none, r)
  else .ok (some (dif r (nmF true false r), .none), nmF true false r)
noncomputable def fillF : Nat -> Nat -> List PyData -> List Nat -> List Nat -> Except (List Nat) (List PyData × List Nat)
 | 0, _, _, _, _ => .error []
 | _ + 1, _, P, R, [] => .ok (flush P R, [])
 | f + 1, st, P, R, c :: r =>
  if c == st then .ok (flush P R, c :: r)
  else if c == 36 then
   (match dolF f r with
   | .error m => .error m
   | .ok (none, e) => fillF f st P (R ++ [36]) e
   | .ok (some p, e) => fillF f st (flush P R ++ [varP p.1 p.2]) [] e)
  else if c == 91 then fillF f st (flush P R ++ [cmdP (dif r (dropC 93 r))]) [] ((dropC 93 r).drop 1)
  else if c == 92 then
   (match r with
   | [] => .error []
   | x :: r' => if x == 10 then fillF f st P (R ++ [32]) (rowF r') else fillF f st P (R ++ [x]) r')
  else fillF f st P (R ++ [c]) r
end
theorem dropC_head {x : Nat} : ∀ {u : List Nat} {c : Nat} {e : List Nat}, dropC x u = c :: e -> c = x
 | c :: r, c', e, h => by
  rw [dropC_eq] at h
  cases q : c == x
  ·rw [q] at h; exact dropC_head h
  ·rw [q] at h
   have : c = x := by simpa using q
   injection h with h1 _
   rw [<- h1, this]
theorem fill_step {f st : Nat} {P : List PyData} {R : List Nat} {c : Nat} {r : List Nat} : fillF (f + 1) st P R (c :: r) =
  if c == st then .ok (flush P R, c :: r)
  else if c == 36 then
   (match dolF f r with
   | .error m => .error m
   | .ok (none, e) => fillF f st P (R ++ [36]) e
   | .ok (some p, e) => fillF f st (flush P R ++ [varP p.1 p.2]) [] e)
  else if c == 91 then fillF f st (flush P R ++ [cmdP (dif r (dropC 93 r))]) [] ((dropC 93 r).drop 1)
  else if c == 92 then
   (match r with
   | [] => .error []
   | x :: r' => if x == 10 then fillF f st P (R ++ [32]) (rowF r') else fillF f st P (R ++ [x]) r')
  else fillF f st P (R ++ [c]) r := rfl
theorem dol_step {f : Nat} {r : List Nat} : dolF (f + 1) r =
  if r.take 1 == [123] then
   (match dropC 125 r with
   | [] => .error msgB
   | _ :: e => .ok (some (dif (r.drop 1) (125 :: e), .none), e))
  else if (nmF true false r).take 1 == [40] then
   (match fillF f 41 [] [] ((nmF true false r).drop 1) with
   | .error m => .error m
   | .ok (_, []) => .error msgP
   | .ok (ps, _ :: e) => .ok (some (dif r (nmF true false r), .tuple ps), e))
  else if (nmF true false r).length == r.length then .ok (none, r)
  else .ok (some (dif r (nmF true false r), .none), nmF true false r) := rfl
theorem drop_suf (n : Nat) (u : List Nat) : u.drop n <:+ u := List.drop_suffix n u
theorem of_ite {C : Prop} {α : Type} {c : Prop} [Decidable c] {a b x : α} (h : (if c then a else b) = x) (k1 : c -> a = x -> C) (k2 : ¬c -> b = x -> C) : C := by
 by_cases q : c
 ·exact k1 q ((if_pos q).symm.trans h)
 ·exact k2 q ((if_neg q).symm.trans h)
noncomputable abbrev FR := Except (List Nat) (List PyData × List Nat)
noncomputable abbrev DR := Except (List Nat) (Option (List Nat × PyData) × List Nat)
noncomputable def dolK (f st : Nat) (P : List PyData) (R : List Nat) : DR -> FR
 | .error m => .error m
 | .ok (none, e) => fillF f st P (R ++ [36]) e
 | .ok (some p, e) => fillF f st (flush P R ++ [varP p.1 p.2]) [] e
noncomputable def brK (t : List Nat) : List Nat -> DR
 | [] => .error msgB
 | _ :: e => .ok (some (dif t (125 :: e), .none), e)
noncomputable def paK (l : List Nat) : FR -> DR
 | .error m => .error m
 | .ok (_, []) => .error msgP
 | .ok (ps, _ :: e) => .ok (some (l, .tuple ps), e)
section
variable {C : Prop} {f st : Nat} {P : List PyData} {R r t l : List Nat} {c : Nat} {x : FR} {y : DR}
theorem dolK_inv (h : dolK f st P R y = x) (kE : ∀ m, y = .error m -> .error m = x -> C) (k1 : ∀ e, y = .ok (none, e) -> fillF f st P (R ++ [36]) e = x -> C)
  (k2 : ∀ p e, y = .ok (some p, e) -> fillF f st (flush P R ++ [varP p.1 p.2]) [] e = x -> C) : C :=
 match y, h with
 | .error m, h => kE m rfl h
 | .ok (none, e), h => k1 e rfl h
 | .ok (some p, e), h => k2 p e rfl h
theorem brK_inv {u : List Nat} (h : brK t u = y) (kE : .error msgB = y -> C) (k : ∀ a e, u = a :: e -> .ok (some (dif t (125 :: e), .none), e) = y -> C) : C :=
 match u, h with
 | [], h => kE h
 | a :: e, h => k a e rfl h
theorem paK_inv (h : paK l x = y) (kE : ∀ m, x = .error m -> .error m = y -> C) (kN : .error msgP = y -> C) (k : ∀ ps a e, x = .ok (ps, a :: e) -> .ok (some (l, .tuple ps), e) = y -> C) : C :=
 match x, h with
 | .error m, h => kE m rfl h
 | .ok (_, []), h => kN h
 | .ok (ps, a :: e), h => k ps a e rfl h
theorem fill_inv (h : fillF (f + 1) st P R (c :: r) = x)
  (k1 : c = st -> .ok (flush P R, c :: r) = x -> C)
  (k2 : c = 36 -> (∀ r', fillF (f + 1) st P R (c :: r') = dolK f st P R (dolF f r')) -> dolK f st P R (dolF f r) = x -> C)
  (k3 : c = 91 -> (∀ r', fillF (f + 1) st P R (c :: r') = fillF f st (flush P R ++ [cmdP (dif r' (dropC 93 r'))]) [] ((dropC 93 r').drop 1)) -> fillF f st (flush P R ++ [cmdP (dif r (dropC 93 r))]) [] ((dropC 93 r).drop 1) = x -> C)
  (k4 : .error [] = x -> C)
  (k5 : ∀ r', c = 92 -> r = 10 :: r' -> (∀ r', fillF (f + 1) st P R (c :: 10 :: r') = fillF f st P (R ++ [32]) (rowF r')) -> fillF f st P (R ++ [32]) (rowF r') = x -> C)
  (k6 : ∀ y r', c = 92 -> r = y :: r' -> (∀ r', fillF (f + 1) st P R (c :: y :: r') = fillF f st P (R ++ [y]) r') -> fillF f st P (R ++ [y]) r' = x -> C)
  (k7 : (∀ r', fillF (f + 1) st P R (c :: r') = fillF f st P (R ++ [c]) r') -> fillF f st P (R ++ [c]) r = x -> C) : C := by
 refine of_ite (fill_step.symm.trans h) (fun q h => k1 (eq_of_beq q) h) fun q1 h => ?_
 have S1 := fun r' => (fill_step (f := f) (st := st) (P := P) (R := R) (c := c) (r := r')).trans (if_neg q1)
 refine of_ite h (fun q h => k2 (eq_of_beq q) (fun r' => (S1 r').trans (if_pos q)) h) fun q2 h => ?_
 have S2 := fun r' => (S1 r').trans (if_neg q2)
 refine of_ite h (fun q h => k3 (eq_of_beq q) (fun r' => (S2 r').trans (if_pos q)) h) fun q3 h => ?_
 have S3 := fun r' => (S2 r').trans (if_neg q3)
 refine of_ite h (fun q h => ?_) fun q h => k7 (fun r' => (S3 r').trans (if_neg q)) h
 have S4 := fun r' => (S3 r').trans (if_pos q)
 cases r with
 | nil => exact k4 h
 | cons y r' => exact of_ite h (fun q5 h => k5 r' (eq_of_beq q) (by rw [eq_of_beq q5]) (fun t => S4 (10 :: t)) h) fun q5 h => k6 y r' (eq_of_beq q) rfl (fun t => (S4 (y :: t)).trans (if_neg q5)) h
theorem take1 {u : List Nat} {x : Nat} (h : (u.take 1 == [x]) = true) : ∃ r, u = x :: r := by
 cases u with
 | nil => cases h
 | cons c r => exact ⟨r, by rw [(List.cons.inj (eq_of_beq h)).1]⟩
theorem dol_br : dolF (f + 1) (123 :: t) = brK t (dropC 125 t) := dol_step
theorem dol_pa {e : List Nat} (h1 : ¬(r.take 1 == [123]) = true) (h2 : nmF true false r = 40 :: e) : dolF (f + 1) r = paK (dif r (40 :: e)) (fillF f 41 [] [] e) := by
 rw [dol_step, if_neg h1, h2]; rfl
theorem dol_no (h1 : ¬(r.take 1 == [123]) = true) (h2 : ¬((nmF true false r).take 1 == [40]) = true) : dolF (f + 1) r = if (nmF true false r).length == r.length then .ok (none, r) else .ok (some (dif r (nmF true false r), .none), nmF true false r) := by
 rw [dol_step, if_neg h1, if_neg h2]
theorem dol_inv (h : dolF (f + 1) r = y) (k1 : ∀ t, r = 123 :: t -> brK t (dropC 125 t) = y -> C)
  (k2 : ∀ e, ¬(r.take 1 == [123]) = true -> nmF true false r = 40 :: e -> paK (dif r (40 :: e)) (fillF f 41 [] [] e) = y -> C)
  (k3 : ¬(r.take 1 == [123]) = true -> ¬((nmF true false r).take 1 == [40]) = true -> nmF true false r = r -> .ok (none, r) = y -> C)
  (k4 : ¬(r.take 1 == [123]) = true -> ¬((nmF true false r).take 1 == [40]) = true -> ¬(nmF true false r).length = r.length -> .ok (some (dif r (nmF true false r), .none), nmF true false r) = y -> C) : C := by
 by_cases q1 : (r.take 1 == [123]) = true
 ·obtain ⟨t, rfl⟩ := take1 q1
  exact k1 t rfl (dol_br.symm.trans h)
 by_cases q2 : ((nmF true false r).take 1 == [40]) = true
 ·obtain ⟨e, he⟩ := take1 q2
  exact k2 e q1 he ((dol_pa q1 he).symm.trans h)
 ·exact of_ite ((dol_no q1 q2).symm.trans h) (fun q h => k3 q1 q2 ((nm_suf _ _ _).eq_of_length (eq_of_beq q)) h) fun q h => k4 q1 q2 (fun e => q (beq_iff_eq.mpr e)) h
end
section
variable {f st c x : Nat} {P : List PyData} {R r : List Nat}
theorem fill_st (h : (c == st) = true) : fillF (f + 1) st P R (c :: r) = .ok (flush P R, c :: r) := by rw [fill_step, if_pos h]
theorem fill_36 (h : ¬(36 == st) = true) : fillF (f + 1) st P R (36 :: r) = dolK f st P R (dolF f r) := by rw [fill_step, if_neg h]; rfl
theorem fill_91 (h : ¬(91 == st) = true) : fillF (f + 1) st P R (91 :: r) = fillF f st (flush P R ++ [cmdP (dif r (dropC 93 r))]) [] ((dropC 93 r).drop 1) := by rw [fill_step, if_neg h]; rfl
theorem fill_nl (h : ¬(92 == st) = true) : fillF (f + 1) st P R (92 :: 10 :: r) = fillF f st P (R ++ [32]) (rowF r) := by rw [fill_step, if_neg h]; rfl
theorem fill_92 (h : ¬(92 == st) = true) (hx : ¬(x == 10) = true) : fillF (f + 1) st P R (92 :: x :: r) = fillF f st P (R ++ [x]) r := by
 rw [fill_step, if_neg h]
 exact if_neg hx
theorem fill_c (h0 : ¬(c == st) = true) (h1 : ¬(c == 36) = true) (h2 : ¬(c == 91) = true) (h3 : ¬(c == 92) = true) : fillF (f + 1) st P R (c :: r) = fillF f st P (R ++ [c]) r := by
 rw [fill_step, if_neg h0, if_neg h1, if_neg h2, if_neg h3]
end
theorem fill_0 {st : Nat} {P : List PyData} {R u : List Nat} {ps : List PyData} {e : List Nat} (h : fillF 0 st P R u = .ok (ps, e)) : False := nomatch (show (Except.error [] : FR) = .ok (ps, e) from h)
theorem fill_nil {f st : Nat} {P : List PyData} {R : List Nat} {ps : List PyData} {e : List Nat} (h : fillF (f + 1) st P R [] = .ok (ps, e)) : ps = flush P R /\ e = [] := by
 have h : (Except.ok (flush P R, []) : FR) = .ok (ps, e) := h
 cases h
 exact ⟨rfl, rfl⟩
theorem dol_0 {r : List Nat} {v : Option (List Nat × PyData) × List Nat} (h : dolF 0 r = .ok v) : False := nomatch (show (Except.error [] : DR) = .ok v from h)
theorem fill_head (f st : Nat) : ∀ (P : List PyData) (R u : List Nat) {ps : List PyData} {c : Nat} {e : List Nat}, fillF f st P R u = .ok (ps, c :: e) -> c = st := by
 induction f with
 | zero => exact fun _ _ _ _ _ _ h => (fill_0 h).elim
 | succ f H =>
  intro P R u ps c e h
  cases u with
  | nil => exact nomatch (fill_nil h).2
  | cons d r => exact fill_inv h (fun q h => by cases h; exact q) (fun _ _ h => dolK_inv h (fun _ _ h => nomatch h) (fun _ _ h => H _ _ _ h) fun _ _ _ h => H _ _ _ h) (fun _ _ h => H _ _ _ h) (fun h => nomatch h) (fun _ _ _ _ h => H _ _ _ h) (fun _ _ _ _ _ h => H _ _ _ h) fun _ h => H _ _ _ h
theorem sufs (f : Nat) : (∀ r p e, dolF f r = .ok (p, e) -> e <:+ r) /\ (∀ st P R u ps e, fillF f st P R u = .ok (ps, e) -> e <:+ u) := by
 induction f with
 | zero => exact ⟨fun _ _ _ h => (dol_0 h).elim, fun _ _ _ _ _ _ h => (fill_0 h).elim⟩
 | succ f H =>
  obtain ⟨h1, h2⟩ := H
  refine ⟨fun r p e h => ?_, fun st P R u ps e h => ?_⟩
  ·refine dol_inv h (fun t hr h => brK_inv h (fun h => nomatch h) fun a e' hd h => ?_) (fun e1 _ hn h => paK_inv h (fun _ _ h => nomatch h) (fun h => nomatch h) fun ps a e' hd h => ?_) (fun _ _ _ h => ?_) fun _ _ _ h => ?_
   ·cases h
    subst hr
    exact ((List.suffix_cons a e).trans (hd ▸ dropL_suf t)).trans (List.suffix_cons _ _)
   ·cases h
    exact (((List.suffix_cons a e).trans (h2 _ _ _ _ _ _ hd)).trans (List.suffix_cons _ _)).trans (hn ▸ nm_suf true false r)
   ·cases h; exact List.suffix_refl _
   ·cases h; exact nm_suf _ _ _
  ·cases u with
   | nil => rw [(fill_nil h).2]; exact List.suffix_refl _
   | cons c r =>
    have K : ∀ {w P R}, fillF f st P R w = .ok (ps, e) -> w <:+ r -> e <:+ c :: r := fun a b => ((h2 _ _ _ _ _ _ a).trans b).trans (List.suffix_cons c r)
    exact fill_inv h (fun _ h => by cases h; exact List.suffix_refl _) (fun _ _ h => dolK_inv h (fun _ _ h => nomatch h) (fun e' q h => K h (h1 _ _ _ q)) fun p e' q h => K h (h1 _ _ _ q))
     (fun _ _ h => K h ((drop_suf 1 _).trans (dropL_suf r))) (fun h => nomatch h) (fun r' _ q _ h => K h (q ▸ (row_suf r').trans (List.suffix_cons _ _))) (fun y r' _ q _ h => K h (q ▸ List.suffix_cons y r')) fun _ h => K h (List.suffix_refl _)
theorem dif_cons {c : Nat} {r e : List Nat} (h : e.length <= r.length) : dif (c :: r) e = c :: dif r e := by
 unfold dif
 rw [List.length_cons, Nat.succ_sub h, List.take_succ_cons]
theorem dif_self (u : List Nat) : dif u u = [] := by unfold dif; simp
theorem fill_run {st : Nat} {P : List PyData} (h36 : st ≠ 36) : ∀ (u : List Nat) (R : List Nat) (f : Nat), u.length < f -> ∃ f', (runP [[st]] u).length < f' /\ fillF f st P R u = fillF f' st P (R ++ dif u (runP [[st]] u)) (runP [[st]] u)
 | [], R, f, h => ⟨f, h, by
   show _ = fillF f st P (R ++ []) []
   rw [List.append_nil]⟩
 | c :: r, R, f, h => by
  cases hq : spec3 c || [[st]].contains [c]
  ·have hr : runP [[st]] (c :: r) = runP [[st]] r := by
    rw [runP_eq]
    exact if_neg (by rw [hq]; decide)
   rw [Bool.or_eq_false_iff] at hq
   have hc : (c == st) = false := by simpa using hq.2
   have h3 : (c == 36) = false /\ (c == 91) = false /\ (c == 92) = false := by
    have := hq.1
    unfold spec3 at this
    simp at this
    simp [this.1, this.2.1, this.2.2]
   cases f with
   | zero => exact absurd h (Nat.not_lt_zero _)
   | succ f =>
    obtain ⟨f', h1, h2⟩ := fill_run h36 (P := P) r (R ++ [c]) f (by simpa using h)
    refine ⟨f', by rw [hr]; exact h1, ?_⟩
    rw [fill_step, hc, h3.1, h3.2.1, h3.2.2, hr]
    simp only [Bool.false_eq_true, if_false]
    rw [h2]
    congr 1
    have hl := (runP_suf (st := [[st]]) r).length_le
    rw [dif_cons hl]
    simp
  ·have hr : runP [[st]] (c :: r) = c :: r := by
    rw [runP_eq]
    exact if_pos hq
   refine ⟨f, by rw [hr]; exact h, ?_⟩
   rw [hr]
   have : dif (c :: r) (c :: r) = [] := by unfold dif; simp
   rw [this, List.append_nil]
noncomputable def dolR (T : List Nat) : Except (List Nat) (Option (List Nat × PyData) × List Nat) -> Rs V
 | .error m => .exc (plainX m)
 | .ok (none, e) => .ok (.d (.tuple [txtP [36], .int (pos T e)]))
 | .ok (some p, e) => .ok (.d (.tuple [varP p.1 p.2, .int (pos T e)]))
noncomputable def fillR (T : List Nat) : Except (List Nat) (List PyData × List Nat) -> Rs V
 | .error m => .exc (plainX m)
 | .ok (ps, e) => .ok (.d (.tuple [.tuple ps, .int (pos T e)]))
theorem flush_len (P : List PyData) (R : List Nat) : (flush P R).length <= P.length + R.length := by
 unfold flush
 split
 ·lia
 ·rename_i h
  have : 1 <= R.length := by
   cases R with
   | nil => exact absurd rfl h
   | cons a l => rw [List.length_cons]; lia
  rw [List.length_append]
  show P.length + 1 <= _
  lia
section
variable {K d : Nat} {T : List Nat} {cf : Cfn} {σ : Sg}
noncomputable abbrev T20 : Cm := .ite (.cmp .eq (.idx (.v 6) (.int 0)) (.str ⟨#[116, 101, 120, 116]⟩))
 (.aug 4 .add (.idx (.v 6) (.int 1))) (.seq (.ite (.cmp .ne (.v 4) (.str ⟨#[]⟩))
 (.seq (.push (.tup (.cons (.str ⟨#[116, 101, 120, 116]⟩) (.cons (.v 4) .nil))))
 (.set 4 (.str ⟨#[]⟩))) .skip)
 (.push (.v 6)))
theorem t20p {s : List Nat} {l P : List PyData} {R : List Nat} {x1 x2 x5 x7 x8 x9 : Option PyData} {x0 : Option PyData} (hs : (s == [116, 101, 120, 116]) = false) (hl : P.length + R.length <= 9000) :
  exc cf K T20 ⟨[x0, x1, x2, none, some (.str ⟨R.toArray⟩), x5, some (.tuple (.str ⟨s.toArray⟩ :: l)), x7, x8, x9], some P⟩ =
   .ok (.next ⟨[x0, x1, x2, none, some (.str ⟨([] : List Nat).toArray⟩), x5, some (.tuple (.str ⟨s.toArray⟩ :: l)), x7, x8, x9], some (flush P R ++ [.tuple (.str ⟨s.toArray⟩ :: l)])⟩) := by
 refine s_F (e_eqS (x := s) (y := [116, 101, 120, 116]) rfl rfl) hs ?_
 have hfl := flush_len P R
 cases R with
 | nil =>
  refine s_pass (e_neS (x := []) (y := []) rfl rfl) rfl ?_
  exact x_push rfl rfl (by lia)
 | cons a R =>
  refine s_seq (s_T (e_neS (x := a :: R) (y := []) rfl rfl) rfl (s_seq (x_push rfl (e_tup2 rfl rfl) (by lia)) rfl)) ?_
  exact x_push rfl rfl (by lia)
theorem t20t {s : List Nat} {P : List PyData} {R : List Nat} {x1 x2 x5 x7 x8 x9 : Option PyData} {x0 : Option PyData} (hl : R.length + s.length <= 9000) :
  exc cf K T20 ⟨[x0, x1, x2, none, some (.str ⟨R.toArray⟩), x5, some (txtP s), x7, x8, x9], some P⟩ =
   .ok (.next ⟨[x0, x1, x2, none, some (.str ⟨(R ++ s).toArray⟩), x5, some (txtP s), x7, x8, x9], some P⟩) :=
 s_T (e_eqS (x := [116, 101, 120, 116]) (y := [116, 101, 120, 116]) rfl rfl) rfl (x_augS rfl rfl (by lia))
theorem cnt_suf {e u : List Nat} (h : e <:+ u) : e.count 36 <= u.count 36 := h.sublist.count_le 36
noncomputable def EndR (T : List Nat) (st : Nat) (o : Rs Out) : Except (List Nat) (List PyData × List Nat) -> Prop
 | .error m => o = .exc (plainX m)
 | .ok (ps, e) => ∃ P' R' y6 y7 y8 y9, o = .ok (.next ⟨[some (.str (mkS T)), some (.int (pos T e)), some (tupS [[st]]), none, some (.str ⟨(R' : List Nat).toArray⟩), some (.int T.length), y6, y7, y8, y9], some P'⟩) /\
   flush P' R' = ps /\ P'.length + R'.length <= 9000
noncomputable abbrev LoopR (T : List Nat) (cf : Cfn) (K k st : Nat) (σ : Sg) (x : Except (List Nat) (List PyData × List Nat)) : Prop := EndR T st (loopW (fun σ => (ev cf σ C20).bind boolOf) (exc cf K B20) k σ) x
noncomputable abbrev S20 (T u : List Nat) (st : Nat) (R : List Nat) (P : List PyData) (x6 x7 x8 x9 : Option PyData) : Sg := ⟨[some (.str (mkS T)), some (.int (pos T u)), some (tupS [[st]]), none, some (.str ⟨R.toArray⟩), some (.int T.length), x6, x7, x8, x9], some P⟩
theorem cut_tail {x : Nat} {u : List Nat} {e : List Nat} (h : dropC x u = x :: e) : e <:+ u := by
 have := dropL_suf (x := x) u
 rw [h] at this
 exact suf_tail this
structure Iv (T : List Nat) (N f k : Nat) (P : List PyData) (R u : List Nat) : Prop where
 hs : u <:+ T
 hg : gd u = true
 hN : u.count 36 <= N
 hf : u.length < f
 hk : u.length < k
 hI : P.length + R.length + u.length <= 9000
section
variable {N st f f' k c x : Nat} {P P' : List PyData} {R R' r u e : List Nat} {x6 x7 x8 x9 : Option PyData} {y : DR} {z : FR}
theorem Iv.to (I : Iv T N f (k + 1) P R (c :: r)) (he : e <:+ r) (hf : e.length < f') (hI : P'.length + R'.length + e.length <= P.length + R.length + (r.length + 1)) : Iv T N f' k P' R' e :=
 ⟨he.trans (suf_tail I.hs), gd_suf he (gd_tail I.hg), Nat.le_trans (cnt_suf (he.trans (List.suffix_cons c r))) I.hN, hf, Nat.lt_of_le_of_lt he.length_le (Nat.lt_of_succ_lt_succ I.hk), Nat.le_trans hI I.hI⟩
theorem Iv.lt (I : Iv T N (f + 1) k P R (c :: r)) (he : e <:+ r) : e.length < f := Nat.lt_of_le_of_lt he.length_le (Nat.lt_of_succ_lt_succ I.hf)
theorem Iv.txt (I : Iv T N (f + 1) (k + 1) P R (c :: r)) (he : e <:+ r) (x : Nat) : Iv T N f k P (R ++ [x]) e := I.to he (I.lt he) (by
 rw [List.length_append]
 show _ + (_ + 1) + _ <= _
 rw [<- Nat.add_assoc, Nat.add_assoc _ 1, Nat.add_comm 1]
 exact Nat.add_le_add_left (Nat.succ_le_succ he.length_le) _)
theorem Iv.part (I : Iv T N (f + 1) (k + 1) P R (c :: r)) (he : e <:+ r) (p : PyData) : Iv T N f k (flush P R ++ [p]) [] e := I.to he (I.lt he) (by
 rw [List.length_append]
 show (_ + 1) + 0 + _ <= _
 rw [Nat.add_zero, Nat.add_assoc _ 1, Nat.add_comm 1]
 exact Nat.add_le_add (flush_len P R) (Nat.succ_le_succ he.length_le))
theorem Iv.room (I : Iv T N f k P R (c :: r)) : P.length + R.length + 1 <= 9000 := Nat.le_trans (Nat.add_le_add_left (Nat.succ_le_succ (Nat.zero_le _)) _) I.hI
theorem Iv.roomR (I : Iv T N f k P R (c :: r)) : R.length + 1 <= 9000 := Nat.le_trans (Nat.succ_le_succ (Nat.le_add_left _ _)) I.room
theorem Iv.roomP (I : Iv T N f k P R u) : P.length + R.length <= 9000 := Nat.le_trans (Nat.le_add_right _ _) I.hI
theorem Iv.cnt (I : Iv T N f k P R (36 :: r)) : r.count 36 < N := by
 have := I.hN
 rw [List.count_cons_self] at this
 exact this
theorem c20d (hf : Fit T) (hs : (c :: r) <:+ T) : ev cf (S20 T (c :: r) st R P x6 x7 x8 x9) C20 = .ok (.d (.bool (!(c == st)))) := by
 refine (c20c hf hs).trans ?_
 rw [show [[st]].contains [c] = ((c == st && true) || false) from rfl, Bool.or_false, Bool.and_true]
theorem n20 {σ' : Sg} (hf : Fit T) (hs : (c :: r) <:+ T) (h0 : ¬(c == st) = true) (h : exc cf K B20 (S20 T (c :: r) st R P x6 x7 x8 x9) = .ok (.next σ')) (r' : LoopR T cf K k st σ' z) : LoopR T cf K (k + 1) st (S20 T (c :: r) st R P x6 x7 x8 x9) z := by
 unfold LoopR
 rw [w_next (c20d hf hs) (by rw [Bool.eq_false_iff.mpr h0]; rfl) h]
 exact r'
theorem g20 (hf : Fit T) (hs : (c :: r) <:+ T) (z : Nat) : ev cf (S20 T (c :: r) st R P x6 x7 x8 x9) (.cmp .eq (.idx (.v 0) (.v 1)) (.str ⟨[z].toArray⟩)) = .ok (.d (.bool ([c] == [z]))) := e_eqS (x := [c]) (y := [z]) (e_idx hf hs rfl rfl) rfl
theorem d20 (hf : Fit T) (I : Iv T N (f + 1) (k + 1) P R (36 :: r)) (h0 : ¬(36 == st) = true) (hc : cf 17 [.str (mkS T), .int (pos T (36 :: r))] = dolR T y)
  (k0 : ∀ e, y = .ok (none, e) -> LoopR T cf K k st (S20 T e st (R ++ [36]) P (some (txtP [36])) x7 x8 x9) (fillF f st P (R ++ [36]) e))
  (k1 : ∀ p e, y = .ok (some p, e) -> LoopR T cf K k st (S20 T e st [] (flush P R ++ [varP p.1 p.2]) (some (varP p.1 p.2)) x7 x8 x9) (fillF f st (flush P R ++ [varP p.1 p.2]) [] e)) :
  LoopR T cf K (k + 1) st (S20 T (36 :: r) st R P x6 x7 x8 x9) (dolK f st P R y) :=
 match y with
 | .error m => w_exc (c20d hf I.hs) (by rw [Bool.eq_false_iff.mpr h0]; rfl) (x_seqE ((x_iteT (g20 hf I.hs 36) rfl).trans (x_setTE (e_call2 rfl rfl hc))))
 | .ok (none, e) => n20 hf I.hs h0 (s_seq (s_T (g20 hf I.hs 36) rfl (x_setT (e_call2 rfl rfl hc) rfl)) (t20t I.roomR)) (k0 e rfl)
 | .ok (some p, e) => n20 hf I.hs h0 (s_seq (s_T (g20 hf I.hs 36) rfl (x_setT (e_call2 rfl rfl hc) rfl)) (t20p rfl I.roomP)) (k1 p e rfl)
theorem b20 (hf : Fit T) (I : Iv T N (f + 1) (k + 1) P R (91 :: r)) (h0 : ¬(91 == st) = true) (hd : dropC 93 r = 93 :: e) (hc : cf 18 [.str (mkS T), .int (pos T (91 :: r))] = .ok (.d (.tuple [.str ⟨(dif r (93 :: e)).toArray⟩, .int (pos T e)])))
  (k1 : LoopR T cf K k st (S20 T e st [] (flush P R ++ [cmdP (dif r (93 :: e))]) (some (cmdP (dif r (93 :: e)))) (some (.str ⟨(dif r (93 :: e)).toArray⟩)) x8 x9) (fillF f st (flush P R ++ [cmdP (dif r (93 :: e))]) [] e)) :
  LoopR T cf K (k + 1) st (S20 T (91 :: r) st R P x6 x7 x8 x9) (fillF (f + 1) st P R (91 :: r)) := by
 rw [fill_91 h0, hd]
 exact n20 hf I.hs h0 (s_seq (s_F (g20 hf I.hs 36) rfl (s_T (g20 hf I.hs 91) rfl (s_setT (e_call2 rfl rfl hc) rfl (x_set (e_tup2 rfl rfl))))) (t20p rfl I.roomP)) k1
theorem s20 (hf : Fit T) (I : Iv T N (f + 1) (k + 1) P R (92 :: r)) (h0 : ¬(92 == st) = true) (sp : [[st]].contains [32] = false) (hc : cf 11 [.str (mkS T), .int (pos T (92 :: r))] = .ok (.d (.tuple [.str ⟨[x].toArray⟩, .int (pos T e)])))
  (k1 : LoopR T cf K k st (S20 T e st (R ++ [x]) P (some (txtP [x])) x7 (some (.str ⟨[x].toArray⟩)) x9) z) : LoopR T cf K (k + 1) st (S20 T (92 :: r) st R P x6 x7 x8 x9) z := by
 have hq : ev cf (S20 T (92 :: r) st R P x6 x7 x8 x9) (.and (.cons (.cmp .in_ (.str ⟨#[32]⟩) (.v 2)) (.cons (.cmp .eq (.slSS (.v 0) (.bin .add (.v 1) (.int 1)) (.bin .add (.v 1) (.int 2))) (.str ⟨#[10]⟩)) .nil))) = .ok (.d (.bool false)) :=
  (e_and2 (t := false) (e_inT (x := [32]) [[st]] rfl rfl) fun h => by rw [sp] at h; cases h).trans (by rw [sp]; rfl)
 exact n20 hf I.hs h0 (s_seq (s_F (g20 hf I.hs 36) rfl (s_F (g20 hf I.hs 91) rfl (s_T (g20 hf I.hs 92) rfl (s_pass hq rfl (s_setT (e_call2 rfl rfl hc) rfl (x_set (e_tup2 rfl rfl))))))) (t20t I.roomR)) k1
theorem spec3_no (h1 : ¬c = 36) (h2 : ¬c = 91) (h3 : ¬c = 92) : spec3 c = false := by unfold spec3; simp [h1, h2, h3]
end
section
variable {N st f k c : Nat} {P : List PyData} {R r : List Nat} {x6 x7 x8 x9 : Option PyData}
noncomputable abbrev Ih20 (T : List Nat) (cf : Cfn) (K N st k : Nat) : Prop := ∀ (f : Nat) (u : List Nat) (P : List PyData) (R : List Nat) (x6 x7 x8 x9 : Option PyData), Iv T N f k P R u -> LoopR T cf K k st (S20 T u st R P x6 x7 x8 x9) (fillF f st P R u)
theorem v36 (hf : Fit T) (ih : Ih20 T cf K N st k) (H : ∀ f r, (36 :: r) <:+ T -> gd r = true -> r.length < f -> r.count 36 < N -> cf 17 [.str (mkS T), .int (pos T (36 :: r))] = dolR T (dolF f r)) (I : Iv T N (f + 1) (k + 1) P R (c :: r)) (h0 : ¬(c == st) = true) (h : c = 36) :
  LoopR T cf K (k + 1) st (S20 T (c :: r) st R P x6 x7 x8 x9) (fillF (f + 1) st P R (c :: r)) := by
 subst h
 rw [fill_36 h0]
 exact d20 hf I h0 (H f r I.hs (gd_tail I.hg) (I.lt (List.suffix_refl _)) I.cnt) (fun e q => ih _ _ _ _ _ _ _ _ (I.txt ((sufs f).1 _ _ _ q) 36)) fun p e q => ih _ _ _ _ _ _ _ _ (I.part ((sufs f).1 _ _ _ q) _)
theorem v91 (hf : Fit T) (hK : 4001 <= K) (ih : Ih20 T (cfn K (d + 5)) K N st k) (I : Iv T N (f + 1) (k + 1) P R (c :: r)) (h0 : ¬(c == st) = true) (h : c = 91) :
  LoopR T (cfn K (d + 5)) K (k + 1) st (S20 T (c :: r) st R P x6 x7 x8 x9) (fillF (f + 1) st P R (c :: r)) := by
 subst h
 obtain ⟨r', hd, hc⟩ := f18 (d := d) hf hK I.hs I.hg
 exact b20 hf I h0 hd hc (ih _ _ _ _ _ _ _ _ (I.part (cut_tail hd) _))
theorem v92 (hf : Fit T) (hK : 4001 <= K) (sp : [[st]].contains [32] = false) (ih : Ih20 T (cfn K (d + 5)) K N st k) (I : Iv T N (f + 1) (k + 1) P R (c :: r)) (h0 : ¬(c == st) = true) (h : c = 92) :
  LoopR T (cfn K (d + 5)) K (k + 1) st (S20 T (c :: r) st R P x6 x7 x8 x9) (fillF (f + 1) st P R (c :: r)) := by
 subst h
 obtain ⟨x, r', rfl, hx⟩ := gd_bs I.hg
 rcases hx with rfl | hx
 ·rw [fill_nl h0]
  exact s20 hf I h0 sp (f11r (d := d + 4) hf hK I.hs) (ih _ _ _ _ _ _ _ _ (I.txt ((row_suf r').trans (List.suffix_cons 10 r')) 32))
 ·rw [fill_92 h0 (by rcases hx with rfl | rfl | rfl <;> decide)]
  exact s20 hf I h0 sp (f11s (K := K) (d := d + 4) hf I.hs hx) (ih _ _ _ _ _ _ _ _ (I.txt (List.suffix_cons x r') x))
theorem run_on (h0 : ¬(c == st) = true) (h : spec3 c = false) : runP [[st]] (c :: r) = runP [[st]] r := by
 rw [runP_eq]
 refine if_neg ?_
 rw [h, show [[st]].contains [c] = ((c == st && true) || false) from rfl, Bool.eq_false_iff.mpr h0]; decide
theorem v_run (hf : Fit T) (hK : 4001 <= K) (n36 : st ≠ 36) (ih : Ih20 T (cfn K (d + 5)) K N st k) (I : Iv T N (f + 1) (k + 1) P R (c :: r)) (h0 : ¬(c == st) = true) (h : spec3 c = false) :
  LoopR T (cfn K (d + 5)) K (k + 1) st (S20 T (c :: r) st R P x6 x7 x8 x9) (fillF (f + 1) st P R (c :: r)) := by
 obtain ⟨f', hf', hfe⟩ := fill_run (P := P) n36 (c :: r) R (f + 1) I.hf
 have hb := b20p (K := K) (cf := cfn K (d + 5)) (st := [[st]]) (P := P) (R := R) (x6 := x6) (x7 := x7) (x8 := x8) (x9 := x9) hf hK I.hs h (Nat.le_trans (Nat.le_add_left _ _) (Nat.le_trans I.roomP (by decide)))
 rw [hfe, run_on h0 h] at *
 refine n20 hf I.hs h0 hb (ih _ _ _ _ _ _ _ _ (I.to (runP_suf r) hf' ?_))
 have hel := (runP_suf (st := [[st]]) r).length_le
 have hdl : (dif (c :: r) (runP [[st]] r)).length <= r.length + 1 - (runP [[st]] r).length := List.length_take_le _ _
 rw [List.length_append, Nat.add_assoc, Nat.add_assoc, Nat.add_assoc]
 exact Nat.add_le_add_left (Nat.add_le_add_left (Nat.add_le_of_le_sub (Nat.le_succ_of_le hel) hdl) _) _
end
theorem L20 {N st : Nat} (hf : Fit T) (hK : 4001 <= K) (hst : st = 41 \/ st = 34) (H17 : ∀ f r, (36 :: r) <:+ T -> gd r = true -> r.length < f -> r.count 36 < N -> cfn K (d + 5) 17 [.str (mkS T), .int (pos T (36 :: r))] = dolR T (dolF f r)) (k : Nat) : Ih20 T (cfn K (d + 5)) K N st k := by
 have sp : [[st]].contains [32] = false /\ st ≠ 36 := by rcases hst with rfl | rfl <;> decide
 induction k with
 | zero => exact fun _ _ _ _ _ _ _ _ I => absurd I.hk (Nat.not_lt_zero _)
 | succ k ih => exact fun f u P R x6 x7 x8 x9 I => match f, u, I with
  | 0, _, I => absurd I.hf (Nat.not_lt_zero _)
  | f + 1, [], I => ⟨P, R, x6, x7, x8, x9, w_stop (e_and2 (t := false) (e_lt rfl rfl) (fun h => by rw [lt_nil] at h; cases h)) (by rw [lt_nil]; rfl), rfl, I.roomP⟩
  | f + 1, c :: r, I => if h0 : (c == st) = true then by rw [fill_st h0]; exact ⟨P, R, x6, x7, x8, x9, w_stop (c20d hf I.hs) (by rw [h0]; rfl), rfl, I.roomP⟩
   else if h1 : c = 36 then v36 hf ih H17 I h0 h1 else if h2 : c = 91 then v91 hf hK ih I h0 h2 else if h3 : c = 92 then v92 hf hK sp.1 ih I h0 h3 else v_run hf hK sp.2 ih I h0 (spec3_no h1 h2 h3)
noncomputable abbrev Z20 : Cm := .seq (.ite (.cmp .ne (.v 4) (.str ⟨#[]⟩)) (.push (.tup (.cons (.str ⟨#[116, 101, 120, 116]⟩) (.cons (.v 4) .nil)))) .skip) (.ret (.tup (.cons .ownTup (.cons (.v 1) .nil))))
theorem z20 {st : Nat} {P : List PyData} {R e : List Nat} {x6 x7 x8 x9 : Option PyData} (h : P.length + R.length <= 9000) : exc cf K Z20 (S20 T e st R P x6 x7 x8 x9) = .ok (.ret (.d (.tuple [.tuple (flush P R), .int (pos T e)]))) := by
 have hP := Nat.le_trans (Nat.le_add_right _ _) h
 cases R with
 | nil => exact s_pass (e_neS (x := []) (y := []) rfl rfl) rfl (x_ret (e_tup2 (e_ownTup rfl (Nat.le_trans hP (by decide))) rfl))
 | cons a R => exact s_seq (s_T (e_neS (x := a :: R) (y := []) rfl rfl) rfl (x_push rfl (e_tup2 rfl rfl) (Nat.le_trans hP (by decide)))) (x_ret (e_tup2 (e_ownTup rfl (Nat.le_trans (Nat.le_trans (flush_len _ _) h) (by decide))) rfl))
theorem end20 {st : Nat} {u : List Nat} {z : FR} (h : LoopR T cf K K st (S20 T u st [] [] none none none none) z) : G cf K (.seq (.wh C20 B20) Z20) (S20 T u st [] [] none none none none) (fillR T z) :=
 match z, h with
 | .error m, h => .of (x_seqE h) rfl
 | .ok (ps, e), h => by
  obtain ⟨P', R', y6, y7, y8, y9, h1, rfl, h3⟩ := h
  exact .of (s_wh h1 (z20 h3)) rfl
theorem F20 {N st : Nat} {u : List Nat} {f : Nat} (hf : Fit T) (hK : 4001 <= K) (hst : st = 41 \/ st = 34) (H17 : ∀ f r, (36 :: r) <:+ T -> gd r = true -> r.length < f -> r.count 36 < N -> cfn K (d + 5) 17 [.str (mkS T), .int (pos T (36 :: r))] = dolR T (dolF f r))
  (hs : u <:+ T) (hg : gd u = true) (hN : u.count 36 <= N) (hfu : u.length < f) : cfn K (d + 6) 20 [.str (mkS T), .int (pos T u), tupS [[st]]] = fillR T (fillF f st [] [] u) := by
 rw [c20]
 have hu : u.length <= 4000 := Nat.le_trans (suf_le hs) hf
 refine G.seq rfl (G.seq (x_set rfl) (G.seq (x_set (e_len hf rfl)) (end20 (L20 hf hK hst H17 K f u [] [] none none none none ⟨hs, hg, hN, hfu, Nat.lt_of_lt_of_le (Nat.lt_succ_of_le hu) hK, by rw [show ([] : List PyData).length + ([] : List Nat).length = 0 from rfl, Nat.zero_add]; exact Nat.le_trans hu (by decide)⟩))))
end
section
variable {K d : Nat} {T : List Nat} {cf : Cfn} {σ : Sg}
theorem p_sl1To {T u r : List Nat} {c : Nat} (hf : Fit T) (h : (c :: u) <:+ T) (hr : r <:+ u) : sliceD (.str (mkS T)) (some (.int (pos T (c :: u) + 1))) (some (.int (pos T r))) = .ok (.str ⟨(dif u r).toArray⟩) := by
 rw [pos1]; exact p_slTo hf (suf_tail h) hr
theorem neg_pos {T u : List Nat} (h : u <:+ T) : decide (pos T u < 0) = false := by
 have := suf_le h
 unfold pos; rw [decide_eq_false_iff_not]; lia
theorem pos_beq {u v : List Nat} : decide (pos T u = pos T v) = (u.length == v.length) := by
 by_cases h : u.length = v.length
 ·rw [decide_eq_true (pos_eq.mpr h)]; simp [h]
 ·rw [decide_eq_false (fun q => h (pos_eq.mp q))]; simp [h]
noncomputable abbrev A17 (T r : List Nat) (x y : Option PyData) : Sg := ⟨[some (.str (mkS T)), some (.int (pos T (36 :: r))), some (.int (pos T r)), x, y, none], none⟩
section
variable {D N f : Nat} {r t e : List Nat} {x y : Option PyData} {z : FR}
theorem q17 (hf : Fit T) (hs : r <:+ T) : ev cf (A17 T r x y) (.cmp .eq (.slSS (.v 0) (.v 2) (.bin .add (.v 2) (.int 1))) (.str ⟨#[123]⟩)) = .ok (.d (.bool (r.take 1 == [123]))) :=
 e_eqS (y := [123]) (e_slc (p_sl01 hf hs) rfl rfl (e_add rfl rfl)) rfl
theorem k17 (hf : Fit T) (hs : e <:+ T) : ev cf (A17 T r x (some (.int (pos T e)))) (.cmp .eq (.slSS (.v 0) (.v 4) (.bin .add (.v 4) (.int 1))) (.str ⟨#[40]⟩)) = .ok (.d (.bool (e.take 1 == [40]))) :=
 e_eqS (y := [40]) (e_slc (p_sl01 hf hs) rfl rfl (e_add rfl rfl)) rfl
theorem b17 (hf : Fit T) (hs : (123 :: t) <:+ T) : G (cfn K (D + 1)) K (tl cm17) (A17 T (123 :: t) none none) (dolR T (brK t (dropC 125 t))) := by
 have hm := m_find (T := T) (u := 123 :: t) (x := 125) (Nat.le_succ_of_le hf) hs
 rw [show dropC 125 (123 :: t) = dropC 125 t from rfl] at hm
 cases hd : dropC 125 t with
 | nil =>
  rw [hd, if_pos rfl] at hm
  exact .of (x_seqE ((x_iteT (q17 hf hs) rfl).trans (s_set (e_me2 rfl rfl rfl hm) (x_takeE (e_lt rfl rfl) rfl (x_raise (e_call1 rfl (f2 (d := D) msgB))))))) rfl
 | cons c e =>
  obtain rfl := dropC_head hd
  rw [hd, if_neg (List.cons_ne_nil _ _)] at hm
  have hsf : (125 :: e) <:+ t := by rw [<- hd]; exact dropL_suf t
  exact .of (x_seqR ((x_iteT (q17 hf hs) rfl).trans (s_set (e_me2 rfl rfl rfl hm) (s_pass (e_lt rfl rfl) (neg_pos (hsf.trans (suf_tail hs))) (x_ret (e_tup2 (e_tup3 rfl (e_slc (p_sl1To hf hs hsf) rfl (e_add rfl rfl) rfl) rfl) (e_addZ rfl rfl (pos1 ..)))))))) rfl
theorem p17 (hf : Fit T) (hs : r <:+ T) (he : (40 :: e) <:+ r) (g : cfn K (D + 1) 20 [.str (mkS T), .int (pos T e), tupS [[41]]] = fillR T z) :
  G (cfn K (D + 1)) K (tl (tl (tl cm17))) (A17 T r none (some (.int (pos T (40 :: e))))) (dolR T (paK (dif r (40 :: e)) z)) := by
 match z with
 | .error m => exact .of (x_seqE ((x_iteT (k17 hf (he.trans hs)) rfl).trans (x_seqE (x_setTE (e_call3 rfl (e_addZ rfl rfl (pos1 ..)) rfl g))))) rfl
 | .ok (ps, []) => exact .of (x_seqE ((x_iteT (k17 hf (he.trans hs)) rfl).trans (s_setT (e_call3 rfl (e_addZ rfl rfl (pos1 ..)) rfl g) rfl (x_takeE (e_ge rfl (e_len hf rfl)) (ge_nil T) (x_raise (e_call1 rfl (f2 (d := D) msgP))))))) rfl
 | .ok (ps, c :: w) => exact .of (x_seqR ((x_iteT (k17 hf (he.trans hs)) rfl).trans (s_setT (e_call3 rfl (e_addZ rfl rfl (pos1 ..)) rfl g) rfl (s_pass (e_ge rfl (e_len hf rfl)) (ge_cons ..) (x_ret (e_tup2 (e_tup3 rfl (e_slc (p_slTo hf hs he) rfl rfl rfl) rfl) (e_addZ rfl rfl (pos1 ..)))))))) rfl
theorem n17 (hf : Fit T) (hs : r <:+ T) (he : e <:+ r) (hp : ¬(e.take 1 == [40]) = true) : G cf K (tl (tl (tl cm17))) (A17 T r none (some (.int (pos T e)))) (dolR T (if e.length == r.length then .ok (none, r) else .ok (some (dif r e, .none), e))) := by
 refine .pass (k17 hf (he.trans hs)) hp ?_
 by_cases hq : (e.length == r.length) = true
 ·rw [if_pos hq]
  exact .of (x_take (e_eqI rfl rfl) (by rw [pos_beq]; exact hq) (x_ret (e_tup2 rfl rfl))) rfl
 ·rw [if_neg hq]
  exact .of (s_pass (e_eqI rfl rfl) (by rw [pos_beq]; exact Bool.eq_false_iff.mpr hq) (x_ret (e_tup2 (e_tup3 rfl (e_slc (p_slTo hf hs he) rfl rfl rfl) rfl) rfl))) rfl
theorem par_cnt (he : (40 :: e) <:+ r) (hN : r.count 36 < N + 1) (hr : r.length < f + 1) : e.count 36 <= N /\ e.length < f := by
 have hel := he.length_le
 rw [List.length_cons] at hel
 have hce := cnt_suf he
 rw [List.count_cons_of_ne (by decide)] at hce
 exact ⟨by lia, by lia⟩
theorem all17 (hf : Fit T) (hK : 4001 <= K) (N : Nat) : ∀ (f : Nat) (r : List Nat), r.count 36 < N -> r.length < f -> (36 :: r) <:+ T -> gd r = true ->
  cfn K (d + 2 * N + 5) 17 [.str (mkS T), .int (pos T (36 :: r))] = dolR T (dolF f r) := by
 induction N with
 | zero => exact fun _ _ h => absurd h (Nat.not_lt_zero _)
 | succ N ih =>
 intro f r hN hr hs hg
 cases f with
 | zero => exact absurd hr (Nat.not_lt_zero _)
 | succ f =>
 have hs1 := suf_tail hs
 rw [c17]
 refine G.seq (σ' := A17 T r none none) (b := tl cm17) (x_set (e_addZ rfl rfl (pos1 ..))) ?_
 by_cases hb : (r.take 1 == [123]) = true
 ·obtain ⟨t, rfl⟩ := take1 hb
  rw [dol_br]
  exact b17 hf hs1
 refine G.pass (q17 hf hs1) hb (G.seq (σ' := A17 T r none (some (.int (pos T (nmF true false r))))) (x_set (e_call2 rfl rfl (f16 (d := d + 2 * N + 4) hf hK hs1))) ?_)
 have he := nm_suf true false r
 by_cases hp : ((nmF true false r).take 1 == [40]) = true
 ·obtain ⟨e, hq⟩ := take1 hp
  rw [dol_pa hb hq]
  rw [hq] at he ⊢
  obtain ⟨n1, n2⟩ := par_cnt he hN hr
  exact p17 (D := d + 2 * N + 5) hf hs1 he (F20 (d := d + 2 * N) (N := N) (st := 41) (f := f) hf hK (.inl rfl) (fun f' r' q1 q2 q3 q4 => ih f' r' q4 q3 q1 q2) (suf_tail (he.trans hs1)) (gd_tail (gd_suf he hg)) n1 n2)
 rw [dol_no hb hp]
 exact n17 hf hs1 he hp
end
theorem all20 {N f st : Nat} {u : List Nat} (hf : Fit T) (hK : 4001 <= K) (hst : st = 41 \/ st = 34) (hs : u <:+ T) (hg : gd u = true) (hu : u.length < f) (hN : u.count 36 <= N) :
  cfn K (d + 2 * N + 6) 20 [.str (mkS T), .int (pos T u), tupS [[st]]] = fillR T (fillF f st [] [] u) :=
 F20 (d := d + 2 * N) (N := N) hf hK hst (fun f' r' q1 q2 q3 q4 => all17 hf hK N f' r' q4 q3 q1 q2) hs hg hN hu
end
noncomputable def NT (P : List PyData) : Prop := P = [] \/ ∃ (P' : List PyData) (s : List Nat) (l : List PyData), P = P' ++ [.tuple (.str ⟨s.toArray⟩ :: l)] /\ (s == [116, 101, 120, 116]) = false
theorem contains_dropC (x : Nat) : ∀ u : List Nat, (dropC x u = [] -> u.contains x = false) /\ (dropC x u ≠ [] -> u.contains x = true)
 | [] => ⟨fun _ => rfl, fun h => absurd rfl h⟩
 | c :: r => by
  rw [dropC_eq]
  cases h : c == x
  ·have hx : (x == c) = false := by
    rw [Bool.eq_false_iff]; intro q
    have : x = c := by simpa using q
    subst this; simp at h
   simp only [Bool.false_eq_true, if_false]
   rw [List.contains_cons, hx, Bool.false_or]
   exact contains_dropC x r
  ·have : c = x := by simpa using h
   subst this
   exact ⟨fun q => by simp at q, fun _ => by simp⟩
section
variable {K d : Nat} {T : List Nat} {cf : Cfn} {σ : Sg}
noncomputable abbrev T46 : Cm := .ite (.and (.cons (.cmp .eq (.idx (.v 4) (.int 0)) (.str ⟨#[116, 101, 120, 116]⟩)) (.cons .ownSome (.cons (.cmp .eq (.idx .ownLast (.int 0)) (.str ⟨#[116, 101, 120, 116]⟩)) .nil))))
 (.setLast (.tup (.cons (.str ⟨#[116, 101, 120, 116]⟩) (.cons (.bin .add (.idx .ownLast (.int 1)) (.idx (.v 4) (.int 1))) .nil)))) (.push (.v 4))
theorem e_ownLast {P : List PyData} {x : PyData} (h : σ.own = some (P ++ [x])) : ev cf σ .ownLast = .ok (.d x) := by
 show Rs.opt σ.own _ = _
 rw [h]
 show Rs.opt (P ++ [x]).getLast? _ = _
 rw [List.getLast?_concat]; rfl
theorem e_ownSome {P : List PyData} (h : σ.own = some P) : ev cf σ .ownSome = .ok (.d (.bool (!P.isEmpty))) := by
 show Rs.opt σ.own _ = _
 rw [h]; rfl
theorem x_setLast {e : Ex} {P : List PyData} {x y : PyData} (ho : σ.own = some (P ++ [y])) (h : ev cf σ e = .ok (.d x)) : exc cf K (.setLast e) σ = .ok (.next ⟨σ.env, some (P ++ [x])⟩) := by
 show Rs.opt σ.own _ = _
 rw [ho]
 show (ev cf σ e).bind _ = _
 rw [h]
 show (if (P ++ [y]).isEmpty = true then _ else _) = _
 rw [if_neg (by simp), List.dropLast_concat]
theorem e_fst {a : Ex} {s : PyData} {l : List PyData} (h : ev cf σ a = .ok (.d (.tuple (s :: l)))) : ev cf σ (.idx a (.int 0)) = .ok (.d s) := by
 show (ev cf σ a).bind _ = _
 rw [h]; rfl
theorem e_snd {a : Ex} {s t : PyData} {l : List PyData} (h : ev cf σ a = .ok (.d (.tuple (s :: t :: l)))) : ev cf σ (.idx a (.int 1)) = .ok (.d t) := by
 show (ev cf σ a).bind _ = _
 rw [h]; rfl
theorem t46p {s : List Nat} {l P : List PyData} {R : List Nat} {x0 x1 x2 x5 : Option PyData} (hs : (s == [116, 101, 120, 116]) = false) (hl : P.length + R.length <= 9000) :
  exc cf K T46 ⟨[x0, x1, x2, none, some (.tuple (.str ⟨s.toArray⟩ :: l)), x5], some (flush P R)⟩ =
   .ok (.next ⟨[x0, x1, x2, none, some (.tuple (.str ⟨s.toArray⟩ :: l)), x5], some (flush P R ++ [.tuple (.str ⟨s.toArray⟩ :: l)])⟩) := by
 have hfl := flush_len P R
 exact s_F (e_and3 (t := false) (u := false) (e_eqS (x := s) (y := [116, 101, 120, 116]) (e_fst rfl) rfl) (fun h => by rw [hs] at h; cases h) (fun h => by rw [hs] at h; cases h)) (by rw [hs]; rfl) (x_push rfl rfl (by lia))
theorem flush_cons (P : List PyData) (a : Nat) (R : List Nat) : flush P (a :: R) = P ++ [txtP (a :: R)] := if_neg (by simp)
theorem t46t {s : List Nat} {P : List PyData} {R : List Nat} {x0 x1 x2 x5 : Option PyData} (hs : s ≠ []) (hP : NT P) (hl : P.length + R.length + s.length <= 9000) :
  exc cf K T46 ⟨[x0, x1, x2, none, some (txtP s), x5], some (flush P R)⟩ = .ok (.next ⟨[x0, x1, x2, none, some (txtP s), x5], some (flush P (R ++ s))⟩) := by
 cases R with
 | nil =>
  have e1 : flush P [] = P := if_pos rfl
  have e2 : flush P ([] ++ s) = P ++ [txtP s] := if_neg (by simpa using hs)
  rw [e1, e2]
  rcases hP with rfl | ⟨P', s', l, rfl, hs'⟩
  ·exact s_F (e_and3 (t := false) (u := false) (e_eqS (x := [116, 101, 120, 116]) (y := [116, 101, 120, 116]) (e_fst rfl) rfl) (fun _ => e_ownSome (P := []) rfl) (fun _ h => by cases h)) rfl (x_push rfl rfl (by simp))
  ·refine s_F (e_and3 (e_eqS (x := [116, 101, 120, 116]) (y := [116, 101, 120, 116]) (e_fst rfl) rfl) (fun _ => e_ownSome rfl) (fun _ _ => e_eqS (x := s') (y := [116, 101, 120, 116]) (e_fst (e_ownLast rfl)) rfl)) (by rw [hs']; simp) (x_push rfl rfl (by simp at hl ⊢; lia))
 | cons a R =>
  rw [List.cons_append, flush_cons, flush_cons]
  refine s_T (e_and3 (e_eqS (x := [116, 101, 120, 116]) (y := [116, 101, 120, 116]) (e_fst rfl) rfl) (fun _ => e_ownSome rfl) (fun _ _ => e_eqS (x := [116, 101, 120, 116]) (y := [116, 101, 120, 116]) (e_fst (e_ownLast rfl)) rfl)) (by simp) ?_
  exact x_setLast rfl (e_tup2 rfl (e_cat (x := a :: R) (y := s) (e_snd (e_ownLast rfl)) (e_snd rfl) (by simp at hl ⊢; lia)))
theorem nt_push (Q : List PyData) {s : List Nat} {l : List PyData} (hs : (s == [116, 101, 120, 116]) = false) : NT (Q ++ [.tuple (.str ⟨s.toArray⟩ :: l)]) := .inr ⟨Q, s, l, rfl, hs⟩
noncomputable abbrev B46 : Cm := .seq (.ite (.cmp .eq (.idx (.v 0) (.v 1)) (.str ⟨#[36]⟩))
 (.setT [4, 1] (.call 45 (.cons (.v 0) (.cons (.v 1) .nil)))) (.ite (.cmp .eq (.idx (.v 0) (.v 1)) (.str ⟨#[91]⟩))
 (.seq (.set 5 (.me .index (.v 0) (.cons (.str ⟨#[93]⟩) (.cons (.v 1) .nil))))
 (.setT [4, 1] (.tup (.cons (.tup (.cons (.str ⟨#[99, 109, 100]⟩) (.cons (.slSS (.v 0) (.bin .add (.v 1) (.int 1)) (.v 5)) .nil))) (.cons (.bin .add (.v 5) (.int 1)) .nil))))) (.ite (.cmp .eq (.slSS (.v 0) (.v 1) (.bin .add (.v 1) (.int 2))) (.str ⟨#[92, 10]⟩))
 (.setT [4, 1] (.tup (.cons (.tup (.cons (.str ⟨#[116, 101, 120, 116]⟩) (.cons (.str ⟨#[32]⟩) .nil))) (.cons (.call 44 (.cons (.v 0) (.cons (.bin .add (.v 1) (.int 2)) .nil))) .nil)))) (.ite (.cmp .eq (.idx (.v 0) (.v 1)) (.str ⟨#[92]⟩))
 (.setT [4, 1] (.tup (.cons (.tup (.cons (.str ⟨#[116, 101, 120, 116]⟩) (.cons (.idx (.v 0) (.bin .add (.v 1) (.int 1))) .nil))) (.cons (.bin .add (.v 1) (.int 2)) .nil)))) (.setT [4, 1] (.tup (.cons (.tup (.cons (.str ⟨#[116, 101, 120, 116]⟩) (.cons (.idx (.v 0) (.v 1)) .nil))) (.cons (.bin .add (.v 1) (.int 1)) .nil))))))))
 T46
noncomputable abbrev C46 : Ex := .and (.cons (.cmp .lt (.v 1) (.bi .len (.v 0))) (.cons (.cmp .ne (.idx (.v 0) (.v 1)) (.v 2)) .nil))
noncomputable abbrev S46 (T u : List Nat) (st : Nat) (W : List PyData) (x4 x5 : Option PyData) : Sg := ⟨[some (.str (mkS T)), some (.int (pos T u)), some (.str ⟨[st].toArray⟩), none, x4, x5], some W⟩
theorem c46c {c st : Nat} {r : List Nat} {W : List PyData} {x4 x5 : Option PyData} (hf : Fit T) (hs : (c :: r) <:+ T) : ev cf (S46 T (c :: r) st W x4 x5) C46 = .ok (.d (.bool (!(c == st)))) := by
 refine (e_and2 (e_lt rfl (e_len hf rfl)) fun _ => e_neS (x := [c]) (y := [st]) (e_idx hf hs rfl rfl) rfl).trans ?_
 rw [lt_cons]
 congr 3
 simp
noncomputable def EndL (T : List Nat) (st : Nat) (o : Rs Out) : Except (List Nat) (List PyData × List Nat) -> Prop
 | .error m => o = .exc (plainX m)
 | .ok (ps, e) => ∃ y4 y5, o = .ok (.next (S46 T e st ps y4 y5)) /\ ps.length <= 9000
noncomputable abbrev LoopL (T : List Nat) (cf : Cfn) (K k st : Nat) (σ : Sg) (x : Except (List Nat) (List PyData × List Nat)) : Prop := EndL T st (loopW (fun σ => (ev cf σ C46).bind boolOf) (exc cf K B46) k σ) x
section
variable {N st f k c x : Nat} {P : List PyData} {R r e : List Nat} {x4 x5 : Option PyData} {y : DR} {z : FR}
noncomputable abbrev Ih46 (T : List Nat) (cf : Cfn) (K N st k : Nat) : Prop := ∀ (f : Nat) (u : List Nat) (P : List PyData) (R : List Nat) (x4 x5 : Option PyData), Iv T N f k P R u -> NT P -> LoopL T cf K k st (S46 T u st (flush P R) x4 x5) (fillF f st P R u)
theorem n46 {W : List PyData} {σ' : Sg} (hf : Fit T) (hs : (c :: r) <:+ T) (h0 : ¬(c == st) = true) (h : exc cf K B46 (S46 T (c :: r) st W x4 x5) = .ok (.next σ')) (r' : LoopL T cf K k st σ' z) : LoopL T cf K (k + 1) st (S46 T (c :: r) st W x4 x5) z := by
 unfold LoopL
 rw [w_next (c46c hf hs) (by rw [Bool.eq_false_iff.mpr h0]; rfl) h]
 exact r'
theorem g46 {W : List PyData} (hf : Fit T) (hs : (c :: r) <:+ T) (z : Nat) : ev cf (S46 T (c :: r) st W x4 x5) (.cmp .eq (.idx (.v 0) (.v 1)) (.str ⟨[z].toArray⟩)) = .ok (.d (.bool ([c] == [z]))) := e_eqS (x := [c]) (y := [z]) (e_idx hf hs rfl rfl) rfl
theorem Iv.fl (I : Iv T N f k P R (c :: r)) : (flush P R).length + 1 <= 9000 := Nat.le_trans (Nat.add_le_add_right (flush_len P R) 1) I.room
theorem flush1 (Q : List PyData) : flush Q [] = Q := if_pos rfl
theorem t46x (I : Iv T N f k P R (c :: r)) (hP : NT P) (x : Nat) {x0 x1 x2 : Option PyData} : exc cf K T46 ⟨[x0, x1, x2, none, some (txtP [x]), x5], some (flush P R)⟩ = .ok (.next ⟨[x0, x1, x2, none, some (txtP [x]), x5], some (flush P (R ++ [x]))⟩) := t46t (List.cons_ne_nil _ _) hP I.room
theorem d46 (hf : Fit T) (ih : Ih46 T cf K N st k) (I : Iv T N (f + 1) (k + 1) P R (36 :: r)) (hP : NT P) (h0 : ¬(36 == st) = true) (hy : ∀ p e, y = .ok (p, e) -> e <:+ r) (hc : cf 45 [.str (mkS T), .int (pos T (36 :: r))] = dolR T y) : LoopL T cf K (k + 1) st (S46 T (36 :: r) st (flush P R) x4 x5) (dolK f st P R y) :=
 match y with
 | .error m => w_exc (c46c hf I.hs) (by rw [Bool.eq_false_iff.mpr h0]; rfl) (x_seqE ((x_iteT (g46 hf I.hs 36) rfl).trans (x_setTE (e_call2 rfl rfl hc))))
 | .ok (none, e) => n46 hf I.hs h0 (s_seq (s_T (g46 hf I.hs 36) rfl (x_setT (e_call2 rfl rfl hc) rfl)) (t46x I hP 36)) (ih _ _ _ _ _ _ (I.txt (hy _ _ rfl) 36) hP)
 | .ok (some p, e) => n46 hf I.hs h0 (s_seq (s_T (g46 hf I.hs 36) rfl (x_setT (e_call2 rfl rfl hc) rfl)) (t46p rfl I.roomP)) ((congrArg (fun W => LoopL T cf K k st (S46 T e st W _ _) _) (flush1 _)).mp (ih _ _ _ _ _ _ (I.part (hy _ _ rfl) _) (nt_push _ rfl)))
theorem v46a (hf : Fit T) (ih : Ih46 T cf K N st k) (H : ∀ f r, (36 :: r) <:+ T -> gd r = true -> r.length < f -> r.count 36 < N -> cf 45 [.str (mkS T), .int (pos T (36 :: r))] = dolR T (dolF f r)) (I : Iv T N (f + 1) (k + 1) P R (c :: r)) (hP : NT P) (h0 : ¬(c == st) = true) (h : c = 36) :
  LoopL T cf K (k + 1) st (S46 T (c :: r) st (flush P R) x4 x5) (fillF (f + 1) st P R (c :: r)) := by
 subst h
 rw [fill_36 h0]
 exact d46 hf ih I hP h0 (fun p e => (sufs f).1 _ _ _) (H f r I.hs (gd_tail I.hg) (I.lt (List.suffix_refl _)) I.cnt)
theorem v46b (hf : Fit T) (hK : 4001 <= K) (ih : Ih46 T cf K N st k) (I : Iv T N (f + 1) (k + 1) P R (c :: r)) (h0 : ¬(c == st) = true) (h : c = 91) :
  LoopL T cf K (k + 1) st (S46 T (c :: r) st (flush P R) x4 x5) (fillF (f + 1) st P R (c :: r)) := by
 subst h
 obtain ⟨e, hd, _⟩ := f18 (d := 0) hf hK I.hs I.hg
 have hsf : (93 :: e) <:+ r := by rw [<- hd]; exact dropL_suf r
 have hm := m_index (T := T) (u := 91 :: r) (x := 93) (Nat.le_succ_of_le hf) I.hs (by show dropC 93 r ≠ []; rw [hd]; exact List.cons_ne_nil _ _)
 rw [show dropC 93 (91 :: r) = 93 :: e from hd] at hm
 rw [fill_91 h0, hd]
 refine n46 hf I.hs h0 (s_seq (s_F (g46 hf I.hs 36) rfl (s_T (g46 hf I.hs 91) rfl (s_set (e_me2 rfl rfl rfl hm) (x_setT (e_tup2 (e_tup2 rfl (e_slc (p_sl1To hf I.hs hsf) rfl (e_add rfl rfl) rfl)) (e_addZ rfl rfl (pos1 ..))) rfl)))) (t46p rfl I.roomP)) ?_
 have g := ih f e _ [] (some (cmdP (dif r (93 :: e)))) (some (.int (pos T (93 :: e)))) (I.part (cut_tail hd) (cmdP (dif r (93 :: e)))) (nt_push _ rfl)
 rw [flush1] at g
 exact g
theorem v46c (hf : Fit T) (hK : 4001 <= K) (ih : Ih46 T (cfn K (d + 1)) K N st k) (I : Iv T N (f + 1) (k + 1) P R (c :: r)) (hP : NT P) (h0 : ¬(c == st) = true) (h : c = 92) :
  LoopL T (cfn K (d + 1)) K (k + 1) st (S46 T (c :: r) st (flush P R) x4 x5) (fillF (f + 1) st P R (c :: r)) := by
 subst h
 obtain ⟨x, r', rfl, hx⟩ := gd_bs I.hg
 have hs' := suf_tail I.hs
 have g3 : ev (cfn K (d + 1)) (S46 T (92 :: x :: r') st (flush P R) x4 x5) (.cmp .eq (.slSS (.v 0) (.v 1) (.bin .add (.v 1) (.int 2))) (.str ⟨#[92, 10]⟩)) = .ok (.d (.bool ([92, x] == [92, 10]))) := e_eqS (y := [92, 10]) (e_slc (p_sl02 hf I.hs) rfl rfl (e_add rfl rfl)) rfl
 by_cases hn : (x == 10) = true
 ·obtain rfl := eq_of_beq hn
  rw [fill_nl h0]
  exact n46 hf I.hs h0 (s_seq (s_F (g46 hf I.hs 36) rfl (s_F (g46 hf I.hs 91) rfl (s_T g3 rfl (x_setT (e_tup2 rfl (e_call2 rfl (e_addZ rfl rfl ((pos2 ..).trans (pos1 ..))) (f44 (d := d) hf hK (suf_tail hs')))) rfl)))) (t46x I hP 32)) (ih _ _ _ _ _ _ (I.txt ((row_suf r').trans (List.suffix_cons 10 r')) 32) hP)
 ·rw [fill_92 h0 hn]
  have g3' : ([92, x] == [92, 10]) = false := by rw [show ([92, x] == [92, 10]) = (x == 10 && true) from rfl, Bool.eq_false_iff.mpr hn]; rfl
  exact n46 hf I.hs h0 (s_seq (s_F (g46 hf I.hs 36) rfl (s_F (g46 hf I.hs 91) rfl (s_F g3 g3' (s_T (g46 hf I.hs 92) rfl (x_setT (e_tup2 (e_tup2 rfl (e_idx hf hs' rfl (e_addZ rfl rfl (pos1 ..)))) (e_addZ rfl rfl ((pos2 ..).trans (pos1 ..)))) rfl))))) (t46x I hP x)) (ih _ _ _ _ _ _ (I.txt (List.suffix_cons x r') x) hP)
theorem v46d (hf : Fit T) (ih : Ih46 T cf K N st k) (I : Iv T N (f + 1) (k + 1) P R (c :: r)) (hP : NT P) (h0 : ¬(c == st) = true) (h1 : ¬(c == 36) = true) (h2 : ¬(c == 91) = true) (h3 : ¬(c == 92) = true) :
  LoopL T cf K (k + 1) st (S46 T (c :: r) st (flush P R) x4 x5) (fillF (f + 1) st P R (c :: r)) := by
 have b : ∀ {x : Nat}, ¬(c == x) = true -> ([c] == [x]) = false := fun h => by rw [show ([c] == [_]) = (c == _ && true) from rfl, Bool.eq_false_iff.mpr h]; rfl
 have g3 : ev cf (S46 T (c :: r) st (flush P R) x4 x5) (.cmp .eq (.slSS (.v 0) (.v 1) (.bin .add (.v 1) (.int 2))) (.str ⟨#[92, 10]⟩)) = .ok (.d (.bool ((c :: r).take 2 == [92, 10]))) := e_eqS (y := [92, 10]) (e_slc (p_sl02 hf I.hs) rfl rfl (e_add rfl rfl)) rfl
 rw [fill_c h0 h1 h2 h3]
 exact n46 hf I.hs h0 (s_seq (s_F (g46 hf I.hs 36) (b h1) (s_F (g46 hf I.hs 91) (b h2) (s_F g3 (two_ne fun q => h3 (by rw [q.1]; rfl)) (s_F (g46 hf I.hs 92) (b h3) (x_setT (e_tup2 (e_tup2 rfl (e_idx hf I.hs rfl rfl)) (e_addZ rfl rfl (pos1 ..))) rfl))))) (t46x I hP c)) (ih _ _ _ _ _ _ (I.txt (List.suffix_refl _) c) hP)
end
theorem L46 {N st : Nat} (hf : Fit T) (hK : 4001 <= K) (H : ∀ f r, (36 :: r) <:+ T -> gd r = true -> r.length < f -> r.count 36 < N -> cfn K (d + 1) 45 [.str (mkS T), .int (pos T (36 :: r))] = dolR T (dolF f r)) (k : Nat) : Ih46 T (cfn K (d + 1)) K N st k := by
 induction k with
 | zero => exact fun _ _ _ _ _ _ I => absurd I.hk (Nat.not_lt_zero _)
 | succ k ih => exact fun f u P R x4 x5 I hP => match f, u, I with
  | 0, _, I => absurd I.hf (Nat.not_lt_zero _)
  | f + 1, [], I => ⟨x4, x5, w_stop (e_and2 (t := false) (e_lt rfl (e_len hf rfl)) (fun h => by rw [lt_nil] at h; cases h)) (by rw [lt_nil]; rfl), Nat.le_trans (flush_len P R) I.roomP⟩
  | f + 1, c :: r, I => if h0 : (c == st) = true then by rw [fill_st h0]; exact ⟨x4, x5, w_stop (c46c hf I.hs) (by rw [h0]; rfl), Nat.le_trans (flush_len P R) I.roomP⟩
   else if h1 : (c == 36) = true then v46a hf ih H I hP h0 (eq_of_beq h1) else if h2 : (c == 91) = true then v46b hf hK ih I h0 (eq_of_beq h2) else if h3 : (c == 92) = true then v46c hf hK ih I hP h0 (eq_of_beq h3) else v46d hf ih I hP h0 h1 h2 h3
theorem end46 {st : Nat} {u : List Nat} {z : FR} {W : List PyData} (h : LoopL T cf K K st (S46 T u st W none none) z) : G cf K (tl cm46) (S46 T u st W none none) (fillR T z) :=
 match z, h with
 | .error m, h => .of (x_seqE h) rfl
 | .ok (ps, e), h => by
  obtain ⟨y4, y5, h1, h2⟩ := h
  exact .of (s_wh h1 (x_ret (e_tup2 (e_ownTup rfl (Nat.le_trans h2 (by decide))) rfl))) rfl
theorem F46 {N st : Nat} {u : List Nat} {f : Nat} (hf : Fit T) (hK : 4001 <= K) (H : ∀ f r, (36 :: r) <:+ T -> gd r = true -> r.length < f -> r.count 36 < N -> cfn K (d + 1) 45 [.str (mkS T), .int (pos T (36 :: r))] = dolR T (dolF f r))
  (hs : u <:+ T) (hg : gd u = true) (hN : u.count 36 <= N) (hfu : u.length < f) : cfn K (d + 2) 46 [.str (mkS T), .int (pos T u), .str ⟨[st].toArray⟩] = fillR T (fillF f st [] [] u) := by
 rw [c46]
 have hu : u.length <= 4000 := Nat.le_trans (suf_le hs) hf
 exact G.seq (σ' := S46 T u st [] none none) rfl (end46 (L46 (st := st) hf hK H K f u [] [] none none ⟨hs, hg, hN, hfu, Nat.lt_of_lt_of_le (Nat.lt_succ_of_le hu) hK, by rw [show ([] : List PyData).length + ([] : List Nat).length = 0 from rfl, Nat.zero_add]; exact Nat.le_trans hu (by decide)⟩ (.inl rfl)))
end
section
variable {K d : Nat} {T : List Nat} {cf : Cfn} {σ : Sg}
theorem e_slN {a b : Ex} {x : Int} {z : List Nat} (h : sliceD (.str (mkS T)) (some (.int x)) none = .ok (.str ⟨z.toArray⟩)) (ha : ev cf σ a = .ok (.d (.str ⟨T.toArray⟩))) (hb : ev cf σ b = .ok (.d (.int x))) : ev cf σ (.slSN a b) = .ok (.d (.str ⟨z.toArray⟩)) := by
 show (ev cf σ a).bind _ = _
 rw [ha]
 show (ev cf σ b).bind _ = _
 rw [hb]
 show (sliceD (.str (mkS T)) _ _).bind _ = _
 rw [h]; rfl
theorem p_sl2To {T u r : List Nat} {c e : Nat} (hf : Fit T) (h : (c :: e :: u) <:+ T) (hr : r <:+ u) : sliceD (.str (mkS T)) (some (.int (pos T (c :: e :: u) + 2))) (some (.int (pos T r))) = .ok (.str ⟨(dif u r).toArray⟩) := by
 rw [pos2, pos1]; exact p_slTo hf (suf_tail (suf_tail h)) hr
theorem pos_len {u v : List Nat} (h : u.length = v.length) : pos T u = pos T v := pos_eq.mpr h
noncomputable abbrev A45 (T r : List Nat) (x : Option PyData) : Sg := ⟨[some (.str (mkS T)), some (.int (pos T (36 :: r))), x, none, none], none⟩
section
variable {D N f : Nat} {r t e : List Nat} {x : Option PyData} {z : FR}
theorem q45 (hf : Fit T) (hs : (36 :: r) <:+ T) : ev cf (A45 T r x) (.cmp .eq (.slSS (.v 0) (.bin .add (.v 1) (.int 1)) (.bin .add (.v 1) (.int 2))) (.str ⟨#[123]⟩)) = .ok (.d (.bool (r.take 1 == [123]))) :=
 e_eqS (y := [123]) (e_slc (p_sl12 hf hs) rfl (e_add rfl rfl) (e_add rfl rfl)) rfl
theorem k45 (hf : Fit T) (hs : e <:+ T) : ev cf (A45 T r (some (.int (pos T e)))) (.cmp .eq (.slSS (.v 0) (.v 2) (.bin .add (.v 2) (.int 1))) (.str ⟨#[40]⟩)) = .ok (.d (.bool (e.take 1 == [40]))) :=
 e_eqS (y := [40]) (e_slc (p_sl01 hf hs) rfl rfl (e_add rfl rfl)) rfl
theorem b45 (hf : Fit T) (hs : (36 :: 123 :: t) <:+ T) : G cf K cm45 (A45 T (123 :: t) none) (dolR T (brK t (dropC 125 t))) := by
 have hcd := contains_dropC 125 (36 :: 123 :: t)
 have hm := m_index (T := T) (u := 36 :: 123 :: t) (x := 125) (Nat.le_succ_of_le hf) hs
 rw [show dropC 125 (36 :: 123 :: t) = dropC 125 t from rfl] at hcd hm
 have h2 : ev cf (A45 T (123 :: t) none) (.cmp .notIn (.str ⟨#[125]⟩) (.slSN (.v 0) (.v 1))) = .ok (.d (.bool (!(36 :: 123 :: t).contains 125))) :=
  e_niS (c := 125) rfl (e_slN (p_slFrom hf hs) rfl rfl)
 cases hd : dropC 125 t with
 | nil =>
  rw [hcd.1 hd] at h2
  exact .of (x_seqE ((x_iteT (q45 hf hs) rfl).trans (x_takeE h2 rfl (x_raise (e_rai2 (t := msgB) rfl))))) rfl
 | cons c e =>
  obtain rfl := dropC_head hd
  have hn : dropC 125 t ≠ [] := by rw [hd]; exact List.cons_ne_nil _ _
  have hm := hm hn
  rw [hcd.2 hn] at h2
  rw [hd] at hm
  have hsf : (125 :: e) <:+ t := by rw [<- hd]; exact dropL_suf t
  exact .of (x_seqR ((x_iteT (q45 hf hs) rfl).trans (s_pass h2 rfl (s_set (e_me2 rfl rfl rfl hm) (x_ret (e_tup2 (e_tup3 rfl (e_slc (p_sl2To hf hs hsf) rfl (e_add rfl rfl) rfl) rfl) (e_addZ rfl rfl (pos1 ..)))))))) rfl
theorem p45 (hf : Fit T) (hs : (36 :: r) <:+ T) (he : (40 :: e) <:+ r) (g : cf 46 [.str (mkS T), .int (pos T e), .str ⟨[41].toArray⟩] = fillR T z) :
  G cf K (tl (tl cm45)) (A45 T r (some (.int (pos T (40 :: e))))) (dolR T (paK (dif r (40 :: e)) z)) := by
 have hes := he.trans (suf_tail hs)
 match z with
 | .error m => exact .of (x_seqE ((x_iteT (k45 hf hes) rfl).trans (x_seqE (x_setTE (e_call3 rfl (e_addZ rfl rfl (pos1 ..)) rfl g))))) rfl
 | .ok (ps, []) => exact .of (x_seqE ((x_iteT (k45 hf hes) rfl).trans (s_setT (e_call3 rfl (e_addZ rfl rfl (pos1 ..)) rfl g) rfl (x_takeE (e_eqI rfl (e_len hf rfl)) (eq_nil T) (x_raise (e_rai2 (t := msgP) rfl)))))) rfl
 | .ok (ps, c :: w) => exact .of (x_seqR ((x_iteT (k45 hf hes) rfl).trans (s_setT (e_call3 rfl (e_addZ rfl rfl (pos1 ..)) rfl g) rfl (s_pass (e_eqI rfl (e_len hf rfl)) (eq_cons ..) (x_ret (e_tup2 (e_tup3 rfl (e_slc (p_sl1To hf hs he) rfl (e_add rfl rfl) rfl) rfl) (e_addZ rfl rfl (pos1 ..)))))))) rfl
theorem n45 (hf : Fit T) (hs : (36 :: r) <:+ T) (he : e <:+ r) (hp : ¬(e.take 1 == [40]) = true) : G cf K (tl (tl cm45)) (A45 T r (some (.int (pos T e)))) (dolR T (if e.length == r.length then .ok (none, r) else .ok (some (dif r e, .none), e))) := by
 refine .pass (k45 hf (he.trans (suf_tail hs))) hp ?_
 by_cases hq : (e.length == r.length) = true
 ·rw [if_pos hq]
  exact .of (x_take (e_eqI rfl (e_addZ rfl rfl (pos1 ..))) (by rw [pos_beq]; exact hq) (x_ret (e_tup2 rfl rfl))) (by rw [pos_len (T := T) (eq_of_beq hq)]; rfl)
 ·rw [if_neg hq]
  exact .of (s_pass (e_eqI rfl (e_addZ rfl rfl (pos1 ..))) (by rw [pos_beq]; exact Bool.eq_false_iff.mpr hq) (x_ret (e_tup2 (e_tup3 rfl (e_slc (p_sl1To hf hs he) rfl (e_add rfl rfl) rfl) rfl) rfl))) rfl
theorem all45 (hf : Fit T) (hK : 4001 <= K) (N : Nat) : ∀ (f : Nat) (r : List Nat), r.count 36 < N -> r.length < f -> (36 :: r) <:+ T -> gd r = true ->
  cfn K (d + 2 * N + 1) 45 [.str (mkS T), .int (pos T (36 :: r))] = dolR T (dolF f r) := by
 induction N with
 | zero => exact fun _ _ h => absurd h (Nat.not_lt_zero _)
 | succ N ih =>
 intro f r hN hr hs hg
 cases f with
 | zero => exact absurd hr (Nat.not_lt_zero _)
 | succ f =>
 have hs1 := suf_tail hs
 rw [c45]
 show G (cfn K (d + 2 * N + 2)) K cm45 (A45 T r none) _
 by_cases hb : (r.take 1 == [123]) = true
 ·obtain ⟨t, rfl⟩ := take1 hb
  rw [dol_br]
  exact b45 hf hs
 refine G.pass (q45 hf hs) hb (G.seq (σ' := A45 T r (some (.int (pos T (nmF true false r))))) (x_set (e_call3 rfl (e_addZ rfl rfl (pos1 ..)) rfl (f42 (d := d + 2 * N + 1) (n := true) hf hK hs1 hg))) ?_)
 have he := nm_suf true false r
 by_cases hp : ((nmF true false r).take 1 == [40]) = true
 ·obtain ⟨e, hq⟩ := take1 hp
  rw [dol_pa hb hq]
  rw [hq] at he ⊢
  obtain ⟨n1, n2⟩ := par_cnt he hN hr
  exact p45 hf hs he (F46 (K := K) (d := d + 2 * N) (N := N) (st := 41) (f := f) hf hK (fun f' r' q1 q2 q3 q4 => ih f' r' q4 q3 q1 q2) (suf_tail (he.trans hs1)) (gd_tail (gd_suf he hg)) n1 n2)
 rw [dol_no hb hp]
 exact n45 hf hs he hp
end
theorem all46 {N f st : Nat} {u : List Nat} (hf : Fit T) (hK : 4001 <= K) (hs : u <:+ T) (hg : gd u = true) (hu : u.length < f) (hN : u.count 36 <= N) :
  cfn K (d + 2 * N + 2) 46 [.str (mkS T), .int (pos T u), .str ⟨[st].toArray⟩] = fillR T (fillF f st [] [] u) :=
 F46 (d := d + 2 * N) (N := N) hf hK (fun f' r' q1 q2 q3 q4 => all45 hf hK N f' r' q4 q3 q1 q2) hs hg hN hu
end
noncomputable def msgC : List Nat := [109, 105, 115, 115, 105, 110, 103, 32, 99, 108, 111, 115, 101, 45, 98, 114, 97, 99, 101]
noncomputable def brcF : Nat -> Nat -> List Nat -> List Nat -> Option (List Nat × List Nat)
 | 0, _, _, _ => none
 | _ + 1, _, _, [] => none
 | f + 1, D, acc, c :: r =>
  if c == 123 then brcF f (D + 1) (acc ++ [123]) r
  else if c == 125 then (if D == 1 then some (acc, r) else brcF f (D - 1) (acc ++ [125]) r)
  else if c == 92 then
   (match r with
   | [] => none
   | x :: r' => if x == 10 then brcF f D (acc ++ [32]) (rowF r') else brcF f D (acc ++ [92, x]) r')
  else brcF f D (acc ++ [c]) r
theorem brc_step {f D : Nat} {acc : List Nat} {c : Nat} {r : List Nat} : brcF (f + 1) D acc (c :: r) =
  if c == 123 then brcF f (D + 1) (acc ++ [123]) r
  else if c == 125 then (if D == 1 then some (acc, r) else brcF f (D - 1) (acc ++ [125]) r)
  else if c == 92 then
   (match r with
   | [] => none
   | x :: r' => if x == 10 then brcF f D (acc ++ [32]) (rowF r') else brcF f D (acc ++ [92, x]) r')
  else brcF f D (acc ++ [c]) r := rfl
theorem brc_bs {f D : Nat} {acc : List Nat} {x : Nat} {r : List Nat} (h : (x == 10) = false) : brcF (f + 1) D acc (92 :: x :: r) = brcF f D (acc ++ [92, x]) r := by
 show (if (x == 10) = true then _ else _) = _
 rw [h]; rfl
noncomputable def plainB (c : Nat) : Bool := ![123, 125, 92].contains c
noncomputable def runB : List Nat -> List Nat
 | [] => []
 | c :: r => if plainB c then runB r else c :: r
theorem runB_eq {c : Nat} {r : List Nat} : runB (c :: r) = if plainB c then runB r else c :: r := rfl
theorem runB_suf : ∀ u : List Nat, runB u <:+ u
 | [] => List.suffix_refl _
 | c :: r => by
  rw [runB_eq]
  split
  ·exact List.IsSuffix.trans (runB_suf r) (List.suffix_cons c r)
  ·exact List.suffix_refl _
theorem plainB_of {c : Nat} : plainB c = true ↔ (c == 123) = false /\ (c == 125) = false /\ (c == 92) = false := by
 unfold plainB; simp
theorem brc_run {D : Nat} : ∀ (u acc : List Nat) (f : Nat), u.length < f -> ∃ f', (runB u).length < f' /\ brcF f D acc u = brcF f' D (acc ++ dif u (runB u)) (runB u)
 | [], acc, f, h => ⟨f, h, by
   show _ = brcF f D (acc ++ []) []
   rw [List.append_nil]⟩
 | c :: r, acc, f, h => by
  cases hq : plainB c
  ·have hr : runB (c :: r) = c :: r := by
    rw [runB_eq]
    exact if_neg (by rw [hq]; decide)
   refine ⟨f, by rw [hr]; exact h, ?_⟩
   rw [hr, dif_self, List.append_nil]
  ·have hr : runB (c :: r) = runB r := by
    rw [runB_eq]
    exact if_pos hq
   obtain ⟨h1, h2, h3⟩ := plainB_of.mp hq
   cases f with
   | zero => exact absurd h (Nat.not_lt_zero _)
   | succ f =>
    obtain ⟨f', g1, g2⟩ := brc_run (D := D) r (acc ++ [c]) f (by simpa using h)
    refine ⟨f', by rw [hr]; exact g1, ?_⟩
    rw [brc_step, h1, h2, h3, hr]
    simp only [Bool.false_eq_true, if_false]
    rw [g2]
    congr 1
    rw [dif_cons (runB_suf r).length_le]
    simp
theorem dif_snoc {c : Nat} {r b : List Nat} (h : (c :: r) <:+ b) : dif b r = dif b (c :: r) ++ [c] := by
 obtain ⟨p, rfl⟩ := h
 rw [dif_append]
 have : p ++ c :: r = (p ++ [c]) ++ r := by simp
 rw [this, dif_append]
theorem dif_trans {a b c : List Nat} (h : b <:+ a) (h2 : c <:+ b) : dif a c = dif a b ++ dif b c := by
 obtain ⟨p, rfl⟩ := h
 obtain ⟨q, rfl⟩ := h2
 rw [dif_append, dif_append, <- List.append_assoc, dif_append]
theorem dif_len (u r : List Nat) : (dif u r).length <= u.length - r.length := List.length_take_le _ _
section
variable {K d : Nat} {T : List Nat} {cf : Cfn} {σ σ' : Sg}
theorem x_seqC {a b : Cm} (h : exc cf K a σ = .ok (.cont σ')) : exc cf K (.seq a b) σ = .ok (.cont σ') := by
 show (exc cf K a σ).bind _ = _
 rw [h]; rfl
theorem x_augSub {i : Nat} {e : Ex} {x y z : Int} (hx : σ.get i = .ok (.d (.int x))) (h : ev cf σ e = .ok (.d (.int y))) (hz : x - y = z) : exc cf K (.aug i .sub e) σ = .ok (.next (σ.put i (.int z))) := by
 show (σ.get i).bind _ = _
 rw [hx]
 show (ev cf σ e).bind _ = _
 rw [h, <- hz]; rfl
noncomputable abbrev S19 (T u b M : List Nat) (D : Int) (x1 x7 x8 : Option PyData) : Sg := ⟨[some (.str (mkS T)), x1, some (.int T.length), some (.int (pos T b)), some (.int (pos T u)), some (.str ⟨M.toArray⟩), some (.int D), x7, x8], none⟩
theorem L19b {x1 x3 x5 x6 x7 x8 : Option PyData} (hf : Fit T) : ∀ (k : Nat) (u : List Nat), u <:+ T -> u.length < k ->
  loopW (fun σ => (ev cf σ (.and (.cons (.cmp .lt (.v 4) (.v 2)) (.cons (.cmp .notIn (.idx (.v 0) (.v 4)) (.str ⟨#[123, 125, 92]⟩)) .nil)))).bind boolOf) (exc cf K (.aug 4 .add (.int 1))) k ⟨[some (.str (mkS T)), x1, some (.int T.length), x3, some (.int (pos T u)), x5, x6, x7, x8], none⟩ =
   .ok (.next ⟨[some (.str (mkS T)), x1, some (.int T.length), x3, some (.int (pos T (runB u))), x5, x6, x7, x8], none⟩)
 | 0, _, _, h => absurd h (Nat.not_lt_zero _)
 | k + 1, [], hs, _ => w_stop (e_and2 (t := false) (e_lt rfl rfl) (fun h => by rw [lt_nil] at h; cases h)) (by rw [lt_nil]; rfl)
 | k + 1, c :: r, hs, hl => by
  rw [runB_eq]
  cases h : plainB c
  ·refine w_stop (e_and2 (e_lt rfl rfl) (fun _ => e_niS (y := [123, 125, 92]) (e_idx hf hs rfl rfl) rfl)) ?_
   rw [lt_cons, Bool.true_and]; exact h
  ·refine (w_next (e_and2 (e_lt rfl rfl) (fun _ => e_niS (y := [123, 125, 92]) (e_idx hf hs rfl rfl) rfl)) ?_ (x_augZ rfl rfl (pos1 ..))).trans (L19b hf k r (suf_tail hs) (by simpa using hl))
   rw [lt_cons, Bool.true_and]; exact h
noncomputable abbrev B19 : Cm := .ite (.cmp .eq (.idx (.v 0) (.v 4)) (.str ⟨#[123]⟩))
 (.seq (.aug 6 .add (.int 1))
 (.aug 4 .add (.int 1))) (.ite (.cmp .eq (.idx (.v 0) (.v 4)) (.str ⟨#[125]⟩))
 (.seq (.aug 6 .sub (.int 1))
 (.seq (.aug 4 .add (.int 1))
 (.ite (.cmp .eq (.v 6) (.int 0))
 (.ret (.tup (.cons (.bin .add (.v 5) (.slSS (.v 0) (.v 3) (.bin .sub (.v 4) (.int 1)))) (.cons (.v 4) .nil)))) .skip))) (.ite (.cmp .eq (.slSS (.v 0) (.v 4) (.bin .add (.v 4) (.int 2))) (.str ⟨#[92, 10]⟩))
 (.seq (.setT [7, 8] (.call 11 (.cons (.v 0) (.cons (.v 4) .nil))))
 (.seq (.aug 5 .add (.bin .add (.slSS (.v 0) (.v 3) (.v 4)) (.v 7)))
 (.seq (.set 4 (.v 8))
 (.set 3 (.v 8))))) (.ite (.cmp .eq (.idx (.v 0) (.v 4)) (.str ⟨#[92]⟩))
 (.aug 4 .add (.int 2)) (.wh (.and (.cons (.cmp .lt (.v 4) (.v 2)) (.cons (.cmp .notIn (.idx (.v 0) (.v 4)) (.str ⟨#[123, 125, 92]⟩)) .nil)))
 (.aug 4 .add (.int 1))))))
noncomputable abbrev C19 : Ex := .cmp .lt (.v 4) (.v 2)
noncomputable def End19 (T : List Nat) (o : Rs Out) : Option (List Nat × List Nat) -> Prop
 | none => ∃ σ', o = .ok (.next σ')
 | some (a, r) => o = .ok (.ret (.d (.tuple [.str ⟨a.toArray⟩, .int (pos T r)])))
noncomputable abbrev Loop19 (T : List Nat) (cf : Cfn) (K k : Nat) (σ : Sg) (x : Option (List Nat × List Nat)) : Prop := End19 T (loopW (fun σ => (ev cf σ C19).bind boolOf) (exc cf K B19) k σ) x
theorem pos_dec (T : List Nat) (c : Nat) (r : List Nat) : pos T r - 1 = pos T (c :: r) := by unfold pos; rw [List.length_cons]; lia
structure Jv (T : List Nat) (f k : Nat) (b M : List Nat) (D : Nat) (u : List Nat) : Prop where
 hub : u <:+ b
 hb : b <:+ T
 hg : gd u = true
 hf : u.length < f
 hk : u.length < k
 hD : 1 <= D
 hI : M.length + b.length <= 9000
section
variable {f f' k c x D D' : Nat} {b M r e : List Nat} {x1 x7 x8 : Option PyData} {z : Option (List Nat × List Nat)}
theorem Jv.hs (I : Jv T f k b M D e) : e <:+ T := I.hub.trans I.hb
theorem Jv.hrb (I : Jv T f k b M D (c :: r)) : r <:+ b := suf_tail I.hub
theorem Jv.to (I : Jv T f (k + 1) b M D (c :: r)) (he : e <:+ r) (hf : e.length < f') (hD : 1 <= D') : Jv T f' k b M D' e :=
 ⟨he.trans I.hrb, I.hb, gd_suf he (gd_tail I.hg), hf, Nat.lt_of_le_of_lt he.length_le (Nat.lt_of_succ_lt_succ I.hk), hD, I.hI⟩
theorem Jv.lt (I : Jv T (f + 1) k b M D (c :: r)) (he : e <:+ r) : e.length < f := Nat.lt_of_le_of_lt he.length_le (Nat.lt_of_succ_lt_succ I.hf)
theorem Jv.next (I : Jv T (f + 1) (k + 1) b M D (c :: r)) (he : e <:+ r) (hD : 1 <= D') : Jv T f k b M D' e := I.to he (I.lt he) hD
noncomputable abbrev Ih19 (T : List Nat) (cf : Cfn) (K k : Nat) : Prop := ∀ (f : Nat) (u b M : List Nat) (D : Nat) (x1 x7 x8 : Option PyData), Jv T f k b M D u -> Loop19 T cf K k (S19 T u b M D x1 x7 x8) (brcF f D (M ++ dif b u) u)
theorem n19 {σ' : Sg} {D : Int} (h : exc cf K B19 (S19 T (c :: r) b M D x1 x7 x8) = .ok (.next σ')) (r' : Loop19 T cf K k σ' z) : Loop19 T cf K (k + 1) (S19 T (c :: r) b M D x1 x7 x8) z := by
 unfold Loop19
 rw [w_next (e_lt rfl rfl) (lt_cons ..) h]
 exact r'
theorem g19 {D : Int} (hf : Fit T) (hs : (c :: r) <:+ T) (z : Nat) : ev cf (S19 T (c :: r) b M D x1 x7 x8) (.cmp .eq (.idx (.v 0) (.v 4)) (.str ⟨[z].toArray⟩)) = .ok (.d (.bool ([c] == [z]))) := e_eqS (x := [c]) (y := [z]) (e_idx hf hs rfl rfl) rfl
theorem h19 {D : Int} (hf : Fit T) (hs : (c :: r) <:+ T) : ev cf (S19 T (c :: r) b M D x1 x7 x8) (.cmp .eq (.slSS (.v 0) (.v 4) (.bin .add (.v 4) (.int 2))) (.str ⟨#[92, 10]⟩)) = .ok (.d (.bool ((c :: r).take 2 == [92, 10]))) := e_eqS (y := [92, 10]) (e_slc (p_sl02 hf hs) rfl rfl (e_add rfl rfl)) rfl
theorem w19a (hf : Fit T) (ih : Ih19 T cf K k) (I : Jv T (f + 1) (k + 1) b M D (c :: r)) (h : c = 123) : Loop19 T cf K (k + 1) (S19 T (c :: r) b M D x1 x7 x8) (brcF (f + 1) D (M ++ dif b (c :: r)) (c :: r)) := by
 subst h
 rw [show brcF (f + 1) D (M ++ dif b (123 :: r)) (123 :: r) = brcF f (D + 1) (M ++ dif b r) r from by rw [dif_snoc I.hub, <- List.append_assoc]; rfl]
 exact n19 (s_T (g19 hf I.hs 123) rfl (s_seq (x_aug rfl rfl) (x_augZ rfl rfl (pos1 ..)))) (ih f r b M (D + 1) _ _ _ (I.next (List.suffix_refl _) (Nat.le_succ_of_le I.hD)))
theorem w19b (hf : Fit T) (ih : Ih19 T cf K k) (I : Jv T (f + 1) (k + 1) b M D (c :: r)) (h : c = 125) : Loop19 T cf K (k + 1) (S19 T (c :: r) b M D x1 x7 x8) (brcF (f + 1) D (M ++ dif b (c :: r)) (c :: r)) := by
 subst h
 by_cases hD : D = 1
 ·subst hD
  refine w_ret (e_lt rfl rfl) (lt_cons ..) (s_F (g19 hf I.hs 123) rfl (s_T (g19 hf I.hs 125) rfl (s_seq (x_augSub (z := 0) rfl rfl rfl) (s_seq (x_augZ rfl rfl (pos1 ..)) (s_T (e_eqI rfl rfl) rfl (x_ret (e_tup2 (e_cat rfl (e_slc (p_slTo hf I.hb I.hub) rfl rfl ((e_sub rfl rfl).trans (by rw [pos_dec T 125 r]))) ?_) rfl)))))))
  exact Nat.le_trans (Nat.add_le_add_left (Nat.le_trans (dif_len _ _) (Nat.sub_le _ _)) _) (Nat.le_trans I.hI (by decide))
 ·obtain ⟨E, rfl⟩ : ∃ E, D = E + 2 := ⟨D - 2, (Nat.sub_add_cancel (Nat.lt_of_le_of_ne I.hD (Ne.symm hD))).symm⟩
  rw [show brcF (f + 1) (E + 2) (M ++ dif b (125 :: r)) (125 :: r) = brcF f (E + 1) (M ++ dif b r) r from by rw [dif_snoc I.hub, <- List.append_assoc]; rfl]
  exact n19 (s_F (g19 hf I.hs 123) rfl (s_T (g19 hf I.hs 125) rfl (s_seq (x_augSub (z := ((E + 1 : Nat) : Int)) rfl rfl (Int.add_sub_cancel ((E + 1 : Nat) : Int) 1)) (s_seq (x_augZ rfl rfl (pos1 ..)) (s_F (e_eqI rfl rfl) (decide_eq_false (fun q => nomatch Int.ofNat.inj q)) rfl))))) (ih f r b M (E + 1) _ _ _ (I.next (List.suffix_refl _) (Nat.succ_le_succ (Nat.zero_le _))))
theorem w19c (hf : Fit T) (hK : 4001 <= K) (ih : Ih19 T (cfn K (d + 1)) K k) (I : Jv T (f + 1) (k + 1) b M D (c :: r)) (h : c = 92) : Loop19 T (cfn K (d + 1)) K (k + 1) (S19 T (c :: r) b M D x1 x7 x8) (brcF (f + 1) D (M ++ dif b (c :: r)) (c :: r)) := by
 subst h
 obtain ⟨x, r', rfl, hx⟩ := gd_bs I.hg
 have hl : M.length + (dif b (92 :: x :: r')).length <= 9000 := Nat.le_trans (Nat.add_le_add_left (Nat.le_trans (dif_len _ _) (Nat.sub_le _ _)) _) I.hI
 by_cases hn : (x == 10) = true
 ·obtain rfl := eq_of_beq hn
  have he : rowF r' <:+ 10 :: r' := (row_suf r').trans (List.suffix_cons 10 r')
  rw [show brcF (f + 1) D (M ++ dif b (92 :: 10 :: r')) (92 :: 10 :: r') = brcF f D ((M ++ (dif b (92 :: 10 :: r') ++ [32])) ++ dif (rowF r') (rowF r')) (rowF r') from by rw [dif_self, List.append_nil, <- List.append_assoc]; rfl]
  refine n19 (s_F (g19 hf I.hs 123) rfl (s_F (g19 hf I.hs 125) rfl (s_T (h19 hf I.hs) rfl (s_setT (e_call2 rfl rfl (f11r (d := d) hf hK I.hs)) rfl (s_seq (x_augS rfl (e_cat (e_slc (p_slTo hf I.hb I.hub) rfl rfl rfl) rfl ?_) ?_) (s_set rfl (x_set rfl))))))) (ih f (rowF r') (rowF r') _ D _ _ _ ⟨List.suffix_refl _, he.trans (suf_tail I.hs), gd_suf he (gd_tail I.hg), I.lt he, Nat.lt_of_le_of_lt he.length_le (Nat.lt_of_succ_lt_succ I.hk), I.hD, ?_⟩)
  ·exact Nat.le_trans (Nat.succ_le_succ (Nat.le_trans (Nat.le_add_left _ _) hl)) (by decide)
  ·rw [List.length_append]; exact Nat.le_trans (Nat.succ_le_succ hl) (by decide)
  ·rw [List.length_append, List.length_append]
   refine Nat.le_trans ?_ I.hI
   rw [Nat.add_assoc M.length, Nat.add_assoc (dif b (92 :: 10 :: r')).length]
   refine Nat.add_le_add_left (Nat.le_trans (Nat.add_le_add_left ?_ _) (Nat.add_le_of_le_sub I.hub.length_le (dif_len b (92 :: 10 :: r')))) _
   rw [show ([32] : List Nat).length = 1 from rfl, Nat.add_comm]
   exact Nat.succ_le_succ he.length_le
 ·have hxn := Bool.eq_false_iff.mpr hn
  rw [show brcF (f + 1) D (M ++ dif b (92 :: x :: r')) (92 :: x :: r') = brcF f D (M ++ dif b r') r' from by
   rw [dif_snoc (c := x) I.hrb, dif_snoc I.hub, brc_bs hxn, List.append_assoc, List.append_assoc]; rfl]
  exact n19 (s_F (g19 hf I.hs 123) rfl (s_F (g19 hf I.hs 125) rfl (s_F (h19 hf I.hs) (by rw [show ((92 :: x :: r').take 2 == [92, 10]) = (x == 10 && true) from rfl, hxn]; rfl) (s_T (g19 hf I.hs 92) rfl (x_augZ rfl rfl ((pos2 ..).trans (pos1 ..))))))) (ih f r' b M D _ _ _ (I.next (List.suffix_cons x r') I.hD))
theorem runB_on (h : plainB c = true) : runB (c :: r) = runB r := by
 rw [runB_eq]
 exact if_pos h
theorem w19d (hf : Fit T) (hK : 4001 <= K) (ih : Ih19 T cf K k) (I : Jv T (f + 1) (k + 1) b M D (c :: r)) (h1 : ¬(c == 123) = true) (h2 : ¬(c == 125) = true) (h3 : ¬(c == 92) = true) : Loop19 T cf K (k + 1) (S19 T (c :: r) b M D x1 x7 x8) (brcF (f + 1) D (M ++ dif b (c :: r)) (c :: r)) := by
 have q : ∀ {x : Nat}, ¬(c == x) = true -> ([c] == [x]) = false := fun h => by rw [show ([c] == [_]) = (c == _ && true) from rfl, Bool.eq_false_iff.mpr h]; rfl
 have hr : runB (c :: r) = runB r := runB_on (plainB_of.mpr ⟨Bool.eq_false_iff.mpr h1, Bool.eq_false_iff.mpr h2, Bool.eq_false_iff.mpr h3⟩)
 obtain ⟨f', hf2, hfe⟩ := brc_run (D := D) (c :: r) (M ++ dif b (c :: r)) (f + 1) I.hf
 have hb19 := L19b (K := K) (cf := cf) (x1 := x1) (x3 := some (.int (pos T b))) (x5 := some (.str ⟨M.toArray⟩)) (x6 := some (.int D)) (x7 := x7) (x8 := x8) hf K (c :: r) I.hs (Nat.lt_of_lt_of_le (Nat.lt_succ_of_le (Nat.le_trans (suf_le I.hs) hf)) hK)
 rw [hfe, List.append_assoc, <- dif_trans I.hub (runB_suf (c :: r)), hr]
 rw [hr] at hf2 hb19
 exact n19 (s_F (g19 hf I.hs 123) (q h1) (s_F (g19 hf I.hs 125) (q h2) (s_F (h19 hf I.hs) (two_ne fun q => h3 (by rw [q.1]; rfl)) (s_F (g19 hf I.hs 92) (q h3) hb19)))) (ih f' (runB r) b M D _ _ _ (I.to (runB_suf r) hf2 I.hD))
end
theorem L19 (hf : Fit T) (hK : 4001 <= K) (k : Nat) : Ih19 T (cfn K (d + 1)) K k := by
 induction k with
 | zero => exact fun _ _ _ _ _ _ _ _ I => absurd I.hk (Nat.not_lt_zero _)
 | succ k ih => exact fun f u b M D x1 x7 x8 I => match f, u, I with
  | 0, _, I => absurd I.hf (Nat.not_lt_zero _)
  | f + 1, [], I => ⟨_, w_stop (e_lt rfl rfl) (lt_nil T)⟩
  | f + 1, c :: r, I => if h1 : (c == 123) = true then w19a hf ih I (eq_of_beq h1) else if h2 : (c == 125) = true then w19b hf ih I (eq_of_beq h2) else if h3 : (c == 92) = true then w19c hf hK ih I (eq_of_beq h3) else w19d hf hK ih I h1 h2 h3
noncomputable def brcR (T : List Nat) : Option (List Nat × List Nat) -> Rs V
 | none => .exc (plainX msgC)
 | some (a, r) => .ok (.d (.tuple [.str ⟨a.toArray⟩, .int (pos T r)]))
noncomputable abbrev Z19 : Cm := .raise (.call 2 (.cons (.str ⟨#[109, 105, 115, 115, 105, 110, 103, 32, 99, 108, 111, 115, 101, 45, 98, 114, 97, 99, 101]⟩) .nil))
theorem end19 {σ : Sg} {z : Option (List Nat × List Nat)} (h : Loop19 T (cfn K (d + 1)) K K σ z) : G (cfn K (d + 1)) K (.seq (.wh C19 B19) Z19) σ (brcR T z) :=
 match z, h with
 | none, ⟨_, h⟩ => .of (s_wh h (x_raise (e_call1 rfl (f2 (d := d) msgC)))) rfl
 | some (a, r), h => .of (x_seqR h) rfl
theorem f19 {r : List Nat} {f : Nat} (hf : Fit T) (hK : 4001 <= K) (hs : (123 :: r) <:+ T) (hg : gd r = true) (hr : r.length < f) : cfn K (d + 2) 19 [.str (mkS T), .int (pos T (123 :: r))] = brcR T (brcF f 1 [] r) := by
 rw [c19]
 have hs' := suf_tail hs
 have hu : r.length <= 4000 := Nat.le_trans (suf_le hs') hf
 have hL := L19 (d := d) hf hK K f r r [] 1 (some (.int (pos T (123 :: r)))) none none ⟨List.suffix_refl _, hs', hg, hr, Nat.lt_of_lt_of_le (Nat.lt_succ_of_le hu) hK, Nat.le_refl _, by rw [show ([] : List Nat).length = 0 from rfl, Nat.zero_add]; exact Nat.le_trans hu (by decide)⟩
 rw [dif_self, List.append_nil] at hL
 exact G.seq (x_set (e_len hf rfl)) (G.seq (x_set (e_addZ rfl rfl (pos1 ..))) (G.seq (x_set rfl) (G.seq (x_set rfl) (G.seq (x_set rfl) (end19 hL)))))
end
section
variable {K d : Nat} {T : List Nat} {cf : Cfn} {σ σ' : Sg}
noncomputable abbrev B47 : Cm := .seq (.ite (.cmp .eq (.slSS (.v 0) (.v 1) (.bin .add (.v 1) (.int 2))) (.str ⟨#[92, 10]⟩))
 (.seq (.setT [2, 1] (.tup (.cons (.bin .add (.v 2) (.str ⟨#[32]⟩)) (.cons (.call 44 (.cons (.v 0) (.cons (.bin .add (.v 1) (.int 2)) .nil))) .nil))))
 .cont) .skip)
 (.seq (.set 3 (.bin .add (.v 3) (.dget ⟨#[123]⟩ (.int 1) ⟨#[125]⟩ (.neg (.int 1)) (.idx (.v 0) (.v 1)) (.int 0))))
 (.seq (.ite (.cmp .eq (.v 3) (.int 0))
 (.ret (.tup (.cons (.slSN (.v 2) (.int 1)) (.cons (.bin .add (.v 1) (.int 1)) .nil)))) .skip)
 (.seq (.set 4 (.ite (.cmp .eq (.idx (.v 0) (.v 1)) (.str ⟨#[92]⟩)) (.int 2) (.int 1)))
 (.setT [2, 1] (.tup (.cons (.bin .add (.v 2) (.slSS (.v 0) (.v 1) (.bin .add (.v 1) (.v 4)))) (.cons (.bin .add (.v 1) (.v 4)) .nil)))))))
noncomputable abbrev S47 (T u I : List Nat) (D : Int) (x4 : Option PyData) : Sg := ⟨[some (.str (mkS T)), some (.int (pos T u)), some (.str ⟨I.toArray⟩), some (.int D), x4], none⟩
theorem e_dget {c : Nat} {r : List Nat} {I : List Nat} {D : Int} {x4 : Option PyData} (hf : Fit T) (hs : (c :: r) <:+ T) :
  ev cf (S47 T (c :: r) I D x4) (.dget ⟨#[123]⟩ (.int 1) ⟨#[125]⟩ (.neg (.int 1)) (.idx (.v 0) (.v 1)) (.int 0)) = .ok (.d (.int (if c = 123 then 1 else if c = 125 then -1 else 0))) := by
 have hk := e_idx (cf := cf) (σ := S47 T (c :: r) I D x4) (a := .v 0) (b := .v 1) hf hs rfl rfl
 have e1 : ∀ y : Nat, ((⟨[c].toArray⟩ : Str) = ⟨#[y]⟩) ↔ c = y := fun y => (mkS_inj (a := [c]) (b := [y])).trans (by simp)
 show (ev cf _ (.idx (.v 0) (.v 1))).bind _ = _
 rw [hk]
 show (if (⟨#[123]⟩ : Str) = ⟨#[125]⟩ then Rs.stuck else Rs.ok (V.d (.int (if (⟨[c].toArray⟩ : Str) = ⟨#[123]⟩ then 1 else if (⟨[c].toArray⟩ : Str) = ⟨#[125]⟩ then -1 else 0)))) = _
 rw [if_neg (by decide)]
 simp only [e1]
theorem e_ite {c a b : Ex} {t : Bool} {v w : V} (h : ev cf σ c = .ok (.d (.bool t))) (ha : ev cf σ a = .ok v) (hb : ev cf σ b = .ok w) : ev cf σ (.ite c a b) = .ok (if t then v else w) := by
 show ((ev cf σ c).bind fun x => (boolOf x).bind fun t => if t then ev cf σ a else ev cf σ b) = _
 rw [h]
 cases t
 ·exact hb
 ·exact ha
theorem b47one {c : Nat} {r I : List Nat} {D D' : Int} {x4 : Option PyData} (hf : Fit T) (hs : (c :: r) <:+ T) (h2 : c ≠ 92) (hD : D + (if c = 123 then 1 else if c = 125 then -1 else 0) = D') (hD' : D' ≠ 0) (hI : I.length <= 9000) :
  exc cf K B47 (S47 T (c :: r) I D x4) = .ok (.next (S47 T r (I ++ [c]) D' (some (.int 1)))) := by
 refine s_pass (e_eqS (y := [92, 10]) (e_slc (p_sl02 hf hs) rfl rfl (e_add rfl rfl)) rfl) (two_ne fun q => h2 q.1) (s_set (e_addZ rfl (e_dget hf hs) hD) (s_pass (e_eqI rfl rfl) (decide_eq_false hD') ?_))
 have h4 : ev cf (S47 T (c :: r) I D' x4) (.ite (.cmp .eq (.idx (.v 0) (.v 1)) (.str ⟨#[92]⟩)) (.int 2) (.int 1)) = .ok (.d (.int 1)) := by
  have hq : ([c] == [92]) = false := by simpa using h2
  refine (e_ite (e_eqS (x := [c]) (y := [92]) (e_idx hf hs rfl rfl) rfl) rfl rfl).trans ?_
  rw [hq]; rfl
 refine s_set h4 (x_setT (e_tup2 (e_cat (y := [c]) rfl (e_slc (p_sl01 hf hs) rfl rfl (e_add rfl rfl)) ?_) (e_addZ rfl rfl (pos1 ..))) rfl)
 show _ + 1 <= _
 lia
theorem b47two {x : Nat} {r I : List Nat} {D : Int} {x4 : Option PyData} (hf : Fit T) (hs : (92 :: x :: r) <:+ T) (hx : x ≠ 10) (hD' : D ≠ 0) (hI : I.length <= 9000) :
  exc cf K B47 (S47 T (92 :: x :: r) I D x4) = .ok (.next (S47 T r (I ++ [92, x]) D (some (.int 2)))) := by
 refine s_pass (e_eqS (y := [92, 10]) (e_slc (p_sl02 hf hs) rfl rfl (e_add rfl rfl)) rfl) (two_ne fun q => by obtain ⟨_, _, q⟩ := q; injection q with q; exact hx q) (s_set (e_addZ rfl (e_dget hf hs) (Int.add_zero D)) (s_pass (e_eqI rfl rfl) (decide_eq_false hD') ?_))
 have h4 : ev cf (S47 T (92 :: x :: r) I D x4) (.ite (.cmp .eq (.idx (.v 0) (.v 1)) (.str ⟨#[92]⟩)) (.int 2) (.int 1)) = .ok (.d (.int 2)) :=
  e_ite (t := true) (e_eqS (x := [92]) (y := [92]) (e_idx hf hs rfl rfl) rfl) rfl rfl
 refine s_set h4 (x_setT (e_tup2 (e_cat (y := [92, x]) rfl (e_slc (p_sl02 hf hs) rfl rfl (e_add rfl rfl)) ?_) (e_addZ rfl rfl ((pos2 ..).trans (pos1 ..)))) rfl)
 show _ + 2 <= _
 lia
theorem b47row {r I : List Nat} {D : Int} {x4 : Option PyData} (hf : Fit T) (hK : 4001 <= K) (hs : (92 :: 10 :: r) <:+ T) (hI : I.length <= 9000) :
  exc (cfn K (d + 1)) K B47 (S47 T (92 :: 10 :: r) I D x4) = .ok (.cont (S47 T (rowF r) (I ++ [32]) D x4)) := by
 refine x_seqC ((x_iteT (e_eqS (y := [92, 10]) (e_slc (p_sl02 hf hs) rfl rfl (e_add rfl rfl)) rfl) rfl).trans (s_seq (x_setT (e_tup2 (e_cat (y := [32]) rfl rfl ?_) (e_call2 rfl (e_addZ rfl rfl ((pos2 ..).trans (pos1 ..))) (f44 (d := d) hf hK (suf_tail (suf_tail hs))))) rfl) rfl))
 show _ + 1 <= _
 lia
noncomputable def End47 (T : List Nat) (o : Rs Out) : Option (List Nat × List Nat) -> Prop
 | none => ∃ σ', o = .ok (.next σ')
 | some (a, r) => o = .ok (.ret (.d (.tuple [.str ⟨a.toArray⟩, .int (pos T r)])))
noncomputable abbrev Loop47 (T : List Nat) (cf : Cfn) (K k : Nat) (σ : Sg) (x : Option (List Nat × List Nat)) : Prop := End47 T (loopW (fun σ => (ev cf σ C42).bind boolOf) (exc cf K B47) k σ) x
theorem pos_eq1 (c : Nat) (u : List Nat) : pos (c :: u) u = 1 := by
 show ((u.length : Int) + 1) - u.length = 1
 rw [Int.add_comm, Int.add_sub_cancel]
structure Kv (T : List Nat) (f k : Nat) (acc : List Nat) (D : Nat) (u : List Nat) : Prop where
 hs : u <:+ T
 hg : gd u = true
 hf : u.length < f
 hk : u.length < k
 hD : 1 <= D
 hI : acc.length + u.length + 1 <= T.length
section
variable {f f' k c x D D' : Nat} {acc acc' M r e : List Nat} {x4 : Option PyData} {z : Option (List Nat × List Nat)}
theorem Kv.to (I : Kv T (f + 1) (k + 1) acc D (c :: r)) (he : e <:+ r) (hD : 1 <= D') (hI : acc'.length + e.length <= acc.length + (r.length + 1)) : Kv T f k acc' D' e :=
 ⟨he.trans (suf_tail I.hs), gd_suf he (gd_tail I.hg), Nat.lt_of_le_of_lt he.length_le (Nat.lt_of_succ_lt_succ I.hf), Nat.lt_of_le_of_lt he.length_le (Nat.lt_of_succ_lt_succ I.hk), hD, Nat.le_trans (Nat.succ_le_succ hI) I.hI⟩
theorem Kv.one (I : Kv T (f + 1) (k + 1) acc D (c :: r)) (he : e <:+ r) (x : Nat) (hD : 1 <= D') : Kv T f k (acc ++ [x]) D' e := I.to he hD (by
 rw [List.length_append, Nat.add_assoc, Nat.add_comm [x].length]
 exact Nat.add_le_add_left (Nat.succ_le_succ he.length_le) _)
theorem Kv.two (I : Kv T (f + 1) (k + 1) acc D (c :: x :: r)) : Kv T f k (acc ++ [c, x]) D r := I.to (List.suffix_cons x r) I.hD (by
 rw [List.length_append, Nat.add_assoc, Nat.add_comm [c, x].length]
 exact Nat.le_refl _)
theorem Kv.acc4 (I : Kv T f k acc D e) (hf : Fit T) : (123 :: acc).length <= 4000 := Nat.le_trans (Nat.le_trans (Nat.succ_le_succ (Nat.le_add_right _ _)) I.hI) hf
theorem Kv.acc9 (I : Kv T f k acc D e) (hf : Fit T) : (123 :: acc).length <= 9000 := Nat.le_trans (I.acc4 hf) (by decide)
theorem Kv.ne (I : Kv T f k acc D e) : (D : Int) ≠ 0 := fun q => absurd (Int.ofNat.inj q ▸ I.hD) (by decide)
noncomputable abbrev Ih47 (T : List Nat) (cf : Cfn) (K k : Nat) : Prop := ∀ (f : Nat) (u acc : List Nat) (D : Nat) (x4 : Option PyData), Kv T f k acc D u -> Loop47 T cf K k (S47 T u (123 :: acc) D x4) (brcF f D acc u)
theorem n47 {σ' : Sg} {D : Int} (hf : Fit T) (h : exc cf K B47 (S47 T (c :: r) M D x4) = .ok (.next σ')) (r' : Loop47 T cf K k σ' z) : Loop47 T cf K (k + 1) (S47 T (c :: r) M D x4) z := by
 unfold Loop47
 rw [w_next (e_lt rfl (e_len hf rfl)) (lt_cons ..) h]
 exact r'
theorem w47a (hf : Fit T) (ih : Ih47 T cf K k) (I : Kv T (f + 1) (k + 1) acc D (c :: r)) (h : c = 123) : Loop47 T cf K (k + 1) (S47 T (c :: r) (123 :: acc) D x4) (brcF (f + 1) D acc (c :: r)) := by
 subst h
 exact n47 hf (b47one hf I.hs (by decide) rfl (fun q => nomatch Int.ofNat.inj q) (I.acc9 hf)) (ih f r (acc ++ [123]) (D + 1) _ (I.one (List.suffix_refl _) 123 (Nat.le_succ_of_le I.hD)))
theorem w47b (hf : Fit T) (ih : Ih47 T cf K k) (I : Kv T (f + 1) (k + 1) acc D (c :: r)) (h : c = 125) : Loop47 T cf K (k + 1) (S47 T (c :: r) (123 :: acc) D x4) (brcF (f + 1) D acc (c :: r)) := by
 subst h
 by_cases hD : D = 1
 ·subst hD
  refine w_ret (e_lt rfl (e_len hf rfl)) (lt_cons ..) (s_pass (e_eqS (y := [92, 10]) (e_slc (p_sl02 hf I.hs) rfl rfl (e_add rfl rfl)) rfl) (two_ne fun q => by cases q.1) (s_set (e_addZ (z := 0) rfl (e_dget hf I.hs) rfl) (x_take (e_eqI rfl rfl) rfl (x_ret (e_tup2 (e_slN (T := 123 :: acc) (x := 1) ?_ rfl rfl) (e_addZ rfl rfl (pos1 ..)))))))
  have := p_slFrom (I.acc4 hf) (List.suffix_cons 123 acc)
  rwa [show pos (123 :: acc) acc = 1 from (pos_eq1 123 acc)] at this
 ·obtain ⟨E, rfl⟩ : ∃ E, D = E + 2 := ⟨D - 2, (Nat.sub_add_cancel (Nat.lt_of_le_of_ne I.hD (Ne.symm hD))).symm⟩
  exact n47 hf (b47one hf I.hs (by decide) (Int.add_sub_cancel ((E + 1 : Nat) : Int) 1) (fun q => nomatch Int.ofNat.inj q) (I.acc9 hf)) (ih f r (acc ++ [125]) (E + 1) _ (I.one (List.suffix_refl _) 125 (Nat.succ_le_succ (Nat.zero_le _))))
theorem w47c (hf : Fit T) (hK : 4001 <= K) (ih : Ih47 T (cfn K (d + 1)) K k) (I : Kv T (f + 1) (k + 1) acc D (c :: r)) (h : c = 92) : Loop47 T (cfn K (d + 1)) K (k + 1) (S47 T (c :: r) (123 :: acc) D x4) (brcF (f + 1) D acc (c :: r)) := by
 subst h
 obtain ⟨x, r', rfl, hx⟩ := gd_bs I.hg
 by_cases hn : (x == 10) = true
 ·obtain rfl := eq_of_beq hn
  unfold Loop47
  rw [w_cont (e_lt rfl (e_len hf rfl)) (lt_cons ..) (b47row hf hK I.hs (I.acc9 hf))]
  exact ih f (rowF r') (acc ++ [32]) D _ (I.one ((row_suf r').trans (List.suffix_cons 10 r')) 32 I.hD)
 ·rw [brc_bs (Bool.eq_false_iff.mpr hn)]
  exact n47 hf (b47two hf I.hs (fun q => hn (by rw [q]; rfl)) I.ne (I.acc9 hf)) (ih f r' (acc ++ [92, x]) D _ I.two)
theorem w47d (hf : Fit T) (ih : Ih47 T cf K k) (I : Kv T (f + 1) (k + 1) acc D (c :: r)) (h1 : ¬c = 123) (h2 : ¬c = 125) (h3 : ¬c = 92) : Loop47 T cf K (k + 1) (S47 T (c :: r) (123 :: acc) D x4) (brcF (f + 1) D acc (c :: r)) := by
 have q : ∀ {x : Nat}, ¬c = x -> ¬(c == x) = true := fun h q => h (eq_of_beq q)
 rw [brc_step, if_neg (q h1), if_neg (q h2), if_neg (q h3)]
 exact n47 hf (b47one hf I.hs h3 (by rw [if_neg h1, if_neg h2, Int.add_zero]) I.ne (I.acc9 hf)) (ih f r (acc ++ [c]) D _ (I.one (List.suffix_refl _) c I.hD))
end
theorem L47 (hf : Fit T) (hK : 4001 <= K) (k : Nat) : Ih47 T (cfn K (d + 1)) K k := by
 induction k with
 | zero => exact fun _ _ _ _ _ I => absurd I.hk (Nat.not_lt_zero _)
 | succ k ih => exact fun f u acc D x4 I => match f, u, I with
  | 0, _, I => absurd I.hf (Nat.not_lt_zero _)
  | f + 1, [], I => ⟨_, w_stop (e_lt rfl (e_len hf rfl)) (lt_nil T)⟩
  | f + 1, c :: r, I => if h1 : c = 123 then w47a hf ih I h1 else if h2 : c = 125 then w47b hf ih I h2 else if h3 : c = 92 then w47c hf hK ih I h3 else w47d hf ih I h1 h2 h3
theorem end47 {σ : Sg} {z : Option (List Nat × List Nat)} (h : Loop47 T cf K K σ z) : G cf K (tl cm47) σ (brcR T z) :=
 match z, h with
 | none, ⟨_, h⟩ => .of (s_wh h (x_raise (e_rai2 (t := msgC) rfl))) rfl
 | some (a, r), h => .of (x_seqR h) rfl
theorem f47 {r : List Nat} {f : Nat} (hf : Fit T) (hK : 4001 <= K) (hs : (123 :: r) <:+ T) (hg : gd r = true) (hr : r.length < f) : cfn K (d + 2) 47 [.str (mkS T), .int (pos T (123 :: r))] = brcR T (brcF f 1 [] r) := by
 rw [c47]
 have hu := suf_le hs
 obtain ⟨K, rfl⟩ := K_succ hK
 refine G.seq (σ' := S47 T (123 :: r) [] 0 none) (b := tl cm47) rfl (end47 (n47 hf (b47one (D := 0) (I := []) hf hs (by decide) rfl (by decide) (by decide)) (L47 (d := d) hf hK K f r [] 1 (some (.int 1)) ⟨suf_tail hs, hg, hr, Nat.le_trans (Nat.le_trans hu hf) (Nat.le_of_succ_le_succ hK), Nat.le_refl _, ?_⟩)))
 rw [show ([] : List Nat).length = 0 from rfl, Nat.zero_add]
 exact hu
end
noncomputable def digF (b : Int) : List Nat -> List Nat
 | [] => []
 | c :: r => if figc b c then digF b r else c :: r
theorem digF_eq {b : Int} {c : Nat} {r : List Nat} : digF b (c :: r) = if figc b c then digF b r else c :: r := rfl
theorem dig_suf {b : Int} : ∀ u : List Nat, digF b u <:+ u
 | [] => List.suffix_refl _
 | c :: r => by
  rw [digF_eq]
  split
  ·exact List.IsSuffix.trans (dig_suf r) (List.suffix_cons c r)
  ·exact List.suffix_refl _
noncomputable def valF (b : Int) (v : Int) (l : List Nat) : Int := l.foldl (fun v c => v * b + dg c) v
theorem dig_all {b : Int} : ∀ u : List Nat, (dif u (digF b u)).all (figc b) = true
 | [] => rfl
 | c :: r => by
  cases h : figc b c
  ·have e : digF b (c :: r) = c :: r := by
    rw [digF_eq]
    exact if_neg (by rw [h]; decide)
   rw [e, dif_self]; rfl
  ·have e : digF b (c :: r) = digF b r := by
    rw [digF_eq]
    exact if_pos h
   rw [e, dif_cons (dig_suf r).length_le, List.all_cons, h, dig_all r]; rfl
noncomputable def floatF (v : List Nat) : Bool :=
 if v.take 1 == [46] then true
 else if !(v.take 1 == [101]) && !(v.take 1 == [69]) then false
 else if [[43], [45]].contains ((v.drop 1).take 1) then figH 10 ((v.drop 1).drop 1) else figH 10 (v.drop 1)
section
variable {K d : Nat} {T : List Nat} {cf : Cfn} {σ σ' : Sg}
noncomputable abbrev B6 : Cm := .seq (.set 4 (.call 5 (.cons (.v 3) .nil)))
 (.seq (.ite (.or (.cons (.cmp .lt (.v 4) (.int 0)) (.cons (.cmp .ge (.v 4) (.v 1)) .nil)))
 (.ret .none) .skip)
 (.set 2 (.bin .add (.bin .mul (.v 2) (.v 1)) (.v 4))))
theorem e_mul {a b : Ex} {x y : Int} (ha : ev cf σ a = .ok (.d (.int x))) (hb : ev cf σ b = .ok (.d (.int y))) (hl : x.natAbs < 256 \/ y.natAbs < 256) : ev cf σ (.bin .mul a b) = .ok (.d (.int (x * y))) := by
 show (ev cf σ a).bind _ = _
 rw [ha]
 show (ev cf σ b).bind _ = _
 rw [hb]
 show (if y.natAbs < 256 then Rs.ok (PyData.int (x * y)) else if x.natAbs < 256 then Rs.ok (PyData.int (x * y)) else .stuck).bind _ = _
 by_cases h : y.natAbs < 256
 ·rw [if_pos h]; rfl
 ·rw [if_neg h, if_pos (by lia)]; rfl
theorem fig_iff {b : Int} {c : Nat} (h : figc b c = true) : 0 <= dg c /\ dg c < b := by
 unfold figc at h
 simpa using h
theorem L6 {b : Int} (hb : 0 <= b /\ b < 256) {x0 : Option PyData} : ∀ (l : List Nat) (v : Int) (x3 x4 : Option PyData), l.all (figc b) = true -> ∃ y3 y4,
  loopL 3 (exc (cfn K (d + 1)) K B6) (l.map fun c => PyData.str (sing c)) ⟨[x0, some (.int b), some (.int v), x3, x4], none⟩ = .ok (.next ⟨[x0, some (.int b), some (.int (valF b v l)), y3, y4], none⟩)
 | [], v, x3, x4, _ => ⟨x3, x4, rfl⟩
 | c :: l, v, x3, x4, h => by
  rw [List.all_cons, Bool.and_eq_true] at h
  obtain ⟨h1, h2⟩ := fig_iff h.1
  obtain ⟨y3, y4, hy⟩ := L6 hb l (v * b + dg c) (some (.str (sing c))) (some (.int (dg c))) h.2
  refine ⟨y3, y4, ?_⟩
  have e : exc (cfn K (d + 1)) K B6 ⟨[x0, some (.int b), some (.int v), some (.str (sing c)), x4], none⟩ = .ok (.next ⟨[x0, some (.int b), some (.int (v * b + dg c)), some (.str (sing c)), some (.int (dg c))], none⟩) := by
   refine s_set (e_call1 rfl (f5 c)) (s_pass (e_or2 (e_lt rfl rfl) fun _ => e_ge rfl rfl) ?_ (x_set (e_add (e_mul rfl rfl (.inr (by lia))) rfl)))
   rw [decide_eq_false (by lia), decide_eq_false (by lia)]; rfl
  show (exc (cfn K (d + 1)) K B6 ⟨[x0, some (.int b), some (.int v), some (.str (sing c)), x4], none⟩).bind _ = _
  rw [e]
  exact hy
theorem f6 {b : Int} (hb : 0 <= b /\ b < 256) {l : List Nat} (hl : l ≠ []) (hn : l.length <= 4000) (h : l.all (figc b) = true) : cfn K (d + 2) 6 [.str ⟨l.toArray⟩, .int b] = .ok (.d (.int (valF b 0 l))) := by
 rw [c6]
 obtain ⟨y3, y4, hy⟩ := L6 (K := K) (d := d) hb (x0 := some (.str ⟨l.toArray⟩)) l 0 none none h
 have he : exc (cfn K (d + 1)) K (.forE 3 (.v 0) B6) ⟨[some (.str ⟨l.toArray⟩), some (.int b), some (.int 0), none, none], none⟩ = .ok (.next ⟨[some (.str ⟨l.toArray⟩), some (.int b), some (.int (valF b 0 l)), y3, y4], none⟩) := by
  show (if (mkS l).cps.size <= big then Rs.ok ((mkS l).cps.toList.map fun c => PyData.str (sing c)) else .stuck).bind _ = _
  have hz : (mkS l).cps.size = l.length := by simp
  rw [hz, if_pos (Nat.le_trans hn (by decide))]
  exact hy
 have : exc (cfn K (d + 1)) K cm6 ⟨[some (.str ⟨l.toArray⟩), some (.int b), none, none, none], none⟩ = .ok (.ret (.d (.int (valF b 0 l)))) :=
  s_pass (e_eqS (x := l) (y := []) rfl rfl) (by simpa using hl) (s_set rfl (s_seq he (x_ret (e_v rfl))))
 rw [this]; rfl
theorem f31 {v : List Nat} (hf : Fit T) (hs : v <:+ T) : cfn K (d + 3) 31 [.str (mkS T), .int (pos T v)] = .ok (.d (.bool (floatF v))) := by
 rw [c31]
 have h1 := p_sl01 hf hs
 have h2 := p_sl12 hf hs
 have g : ∀ w : List Nat, w <:+ T -> cfn K (d + 2) 28 [.str (mkS T), .int (pos T w), .int 10] = .ok (.d (.bool (figH 10 w))) := fun w hw => f28 hf hw
 have : exc (cfn K (d + 2)) K cm31 ⟨[some (.str (mkS T)), some (.int (pos T v)), none], none⟩ = .ok (.ret (.d (.bool (floatF v)))) := by
  refine s_set (e_slc h1 rfl rfl (e_add rfl rfl)) ?_
  unfold floatF
  cases q1 : v.take 1 == [46]
  ·refine s_pass (e_eqS (y := [46]) rfl rfl) q1 ?_
   cases q2 : !(v.take 1 == [101]) && !(v.take 1 == [69])
   ·refine s_pass (e_and2 (e_neS (y := [101]) rfl rfl) fun _ => e_neS (y := [69]) rfl rfl) q2 ?_
    simp only [Bool.false_eq_true, if_false]
    have hv : ∃ c r, v = c :: r := by
     cases v with
     | nil => cases q2
     | cons c r => exact ⟨c, r, rfl⟩
    obtain ⟨c, r, rfl⟩ := hv
    have hs1 := suf_tail hs
    cases q3 : [[43], [45]].contains (((c :: r).drop 1).take 1)
    ·simp only [Bool.false_eq_true, if_false]
     refine s_seq (s_F (e_inT [[43], [45]] (e_slc h2 rfl (e_add rfl rfl) (e_add rfl rfl)) rfl) q3 rfl) ?_
     exact x_ret (e_call3 rfl (e_addZ rfl rfl (pos1 ..)) rfl (g r hs1))
    ·simp only [if_true]
     have hr : ∃ c' r', r = c' :: r' := by
      cases r with
      | nil => cases q3
      | cons c r => exact ⟨c, r, rfl⟩
     obtain ⟨c', r', rfl⟩ := hr
     refine s_seq (s_T (e_inT [[43], [45]] (e_slc h2 rfl (e_add rfl rfl) (e_add rfl rfl)) rfl) q3 (x_augZ rfl rfl (pos1 ..))) ?_
     exact x_ret (e_call3 rfl (e_addZ rfl rfl (pos1 ..)) rfl (g r' (suf_tail hs1)))
   ·exact x_take (e_and2 (e_neS (y := [101]) rfl rfl) fun _ => e_neS (y := [69]) rfl rfl) q2 rfl
  ·exact x_take (e_eqS (y := [46]) rfl rfl) q1 rfl
 rw [this]; rfl
end
noncomputable def msgF : List Nat := [102, 108, 111, 97, 116, 105, 110, 103, 45, 112, 111, 105, 110, 116, 32, 110, 117, 109, 98, 101, 114, 32, 108, 101, 102, 116, 32, 111, 117, 116]
noncomputable def wrdS : PyData := .str ⟨[119, 111, 114, 100].toArray⟩
noncomputable def numS : PyData := .str ⟨[110, 117, 109, 98, 101, 114].toArray⟩
noncomputable def baseF : List Nat -> Int × List Nat × Bool
 | [] => (10, [], true)
 | c :: r => if c == 48 then (if decide (0 < markb (r.take 1)) && figH (markb (r.take 1)) (r.drop 1) then (markb (r.take 1), r.drop 1, false) else (10, 48 :: r, true)) else (10, c :: r, true)
theorem base_no {c : Nat} {r : List Nat} (h : ¬c = 48) : baseF (c :: r) = (10, c :: r, true) := if_neg fun q => h (eq_of_beq q)
noncomputable def numF (u : List Nat) : Except (List Nat) (PyData × PyData × List Nat) :=
 let b := baseF u
 let v := digF b.1 b.2.1
 let e := nmF false false v
 if b.2.2 && floatF v then .error msgF
 else if decide (e.length < v.length) && (!(v.take 1 == [58]) && !isop (dif v e)) then .ok (wrdS, .str ⟨(dif u e).toArray⟩, e)
 else .ok (numS, .int (valF b.1 0 (dif b.2.1 v)), v)
noncomputable def tokR (T u : List Nat) : Except (List Nat) (PyData × PyData × List Nat) -> Rs V
 | .error m => .exc (exprX T m)
 | .ok (s, v, e) => .ok (.d (.tuple [s, v, .int (pos T u), .int (pos T e)]))
noncomputable def B4 (b : Int) : Prop := b = 16 \/ b = 8 \/ b = 2 \/ b = 10
theorem B4.abs {b : Int} (h : B4 b) : b.natAbs < 256 := by rcases h with rfl | rfl | rfl | rfl <;> decide
theorem B4.le {b : Int} (h : B4 b) : 0 <= b /\ b < 256 := by rcases h with rfl | rfl | rfl | rfl <;> decide
theorem mark_cases : ∀ m < 128, (lowerA m = 120 /\ markb [m] = 16) \/ (lowerA m = 111 /\ markb [m] = 8) \/ (lowerA m = 98 /\ markb [m] = 2) \/ (lowerA m = 100 /\ markb [m] = 10) \/
  ((lowerA m ≠ 120 /\ lowerA m ≠ 111 /\ lowerA m ≠ 98 /\ lowerA m ≠ 100) /\ markb [m] = 0) := by decide +kernel
theorem mark_nil : markb [] = 0 := by decide +kernel
structure BaseOk (u : List Nat) (b : Int × List Nat × Bool) : Prop where
 four : B4 b.1
 suf : b.2.1 <:+ u
 fig : figH b.1 b.2.1 = true
 flag : b.2.2 = (b.2.1.length == u.length)
 run : nmF false false u = nmF false false b.2.1
theorem mark_pos {l : List Nat} (h : 0 < markb l) : B4 (markb l) := by
 unfold markb at h ⊢
 unfold B4
 split
 ·exact .inl rfl
 split
 ·exact .inr (.inl rfl)
 split
 ·exact .inr (.inr (.inl rfl))
 split
 ·exact .inr (.inr (.inr rfl))
 ·rename_i h1 h2 h3 h4
  rw [if_neg h1, if_neg h2, if_neg h3, if_neg h4] at h
  exact absurd h (by decide)
theorem base_ok {c : Nat} {r : List Nat} (hg : gd (c :: r) = true) (h : figc 10 c = true) : BaseOk (c :: r) (baseF (c :: r)) := by
 have dflt : BaseOk (c :: r) (10, c :: r, true) := ⟨.inr (.inr (.inr rfl)), List.suffix_refl _, h, by simp, rfl⟩
 by_cases hc : c = 48
 ·subst hc
  show BaseOk (48 :: r) (if decide (0 < markb (r.take 1)) && figH (markb (r.take 1)) (r.drop 1) then (markb (r.take 1), r.drop 1, false) else (10, 48 :: r, true))
  cases hq : decide (0 < markb (r.take 1)) && figH (markb (r.take 1)) (r.drop 1)
  ·exact dflt
  ·simp only [Bool.and_eq_true, decide_eq_true_eq] at hq
   cases r with
   | nil => exact absurd hq.1 (by rw [List.take_nil, mark_nil]; decide)
   | cons m r' =>
    refine ⟨mark_pos hq.1, ⟨[48, m], rfl⟩, hq.2, ?_, ?_⟩
    ·have : ((m :: r').drop 1).length ≠ (48 :: m :: r').length := by simp; lia
     simp only [if_true]
     exact (beq_eq_false_iff_ne.mpr this).symm
    ·have hw : wordc m = true := by
      have hm := gd_lt (gd_tail hg)
      have : ∀ m < 128, 0 < markb [m] -> wordc m = true := by decide +kernel
      exact this m hm hq.1
     rw [nm_word (by decide), nm_word hw]; rfl
 ·have : baseF (c :: r) = (10, c :: r, true) := base_no hc
  rw [this]; exact dflt
theorem fig_word {b : Int} {c : Nat} (h : figc b c = true) : wordc c = true := by
 have := (fig_iff h).1
 unfold wordc
 rw [<- dg_word, decide_eq_true this]; rfl
theorem nm_dig {b : Int} : ∀ u : List Nat, nmF false false u = nmF false false (digF b u)
 | [] => rfl
 | c :: r => by
  rw [digF_eq]
  cases h : figc b c
  ·rfl
  ·rw [nm_word (fig_word h)]; exact nm_dig r
theorem dig_ne {b : Int} {u : List Nat} (h : figH b u = true) : dif u (digF b u) ≠ [] := by
 cases u with
 | nil => cases h
 | cons c r =>
  have h : figc b c = true := h
  have e : digF b (c :: r) = digF b r := by
   rw [digF_eq]
   exact if_pos h
  rw [e, dif_cons (dig_suf r).length_le]
  simp
section
variable {K d : Nat} {T : List Nat} {cf : Cfn} {σ σ' : Sg}
theorem pos_lt {u v : List Nat} : decide (pos T u < pos T v) = decide (v.length < u.length) := by
 by_cases h : v.length < u.length
 ·rw [decide_eq_true h, decide_eq_true_eq]; unfold pos; lia
 ·rw [decide_eq_false h, decide_eq_false_iff_not]; unfold pos; lia
theorem b32 {c : Nat} {r : List Nat} (hf : Fit T) (hs : (c :: r) <:+ T) : ∃ y4,
  exc (cfn K (d + 2)) K (.ite (.cmp .eq (.idx (.v 0) (.v 1)) (.str ⟨#[48]⟩))
 (.seq (.set 4 (.call 7 (.cons (.slSS (.v 0) (.bin .add (.v 1) (.int 1)) (.bin .add (.v 1) (.int 2))) .nil)))
 (.ite (.and (.cons (.cmp .gt (.v 4) (.int 0)) (.cons (.call 28 (.cons (.v 0) (.cons (.bin .add (.v 1) (.int 2)) (.cons (.v 4) .nil)))) .nil)))
 (.setT [2, 3] (.tup (.cons (.v 4) (.cons (.bin .add (.v 1) (.int 2)) .nil)))) .skip)) .skip) ⟨[some (.str (mkS T)), some (.int (pos T (c :: r))), some (.int 10), some (.int (pos T (c :: r))), none, none, none], none⟩ =
   .ok (.next ⟨[some (.str (mkS T)), some (.int (pos T (c :: r))), some (.int (baseF (c :: r)).1), some (.int (pos T (baseF (c :: r)).2.1)), y4, none, none], none⟩) := by
 by_cases hc : c = 48
 ·subst hc
  refine ⟨some (.int (markb (r.take 1))), s_T (e_eqS (x := [48]) (y := [48]) (e_idx hf hs rfl rfl) rfl) rfl (s_set (e_call1 (e_slc (p_sl12 hf hs) rfl (e_add rfl rfl) (e_add rfl rfl)) (f7 (d := d + 1) _)) ?_)⟩
  show _ = Rs.ok (Out.next ⟨[_, _, some (.int (if decide (0 < markb (r.take 1)) && figH (markb (r.take 1)) (r.drop 1) then (markb (r.take 1), r.drop 1, false) else (10, 48 :: r, true)).1), some (.int (pos T (if decide (0 < markb (r.take 1)) && figH (markb (r.take 1)) (r.drop 1) then (markb (r.take 1), r.drop 1, false) else (10, 48 :: r, true)).2.1)), _, _, _], none⟩)
  cases r with
  | nil =>
   rw [List.take_nil, mark_nil]
   exact s_F (e_and2 (t := false) (e_gt (x := 0) rfl rfl) fun h => by cases h) rfl rfl
  | cons m r' =>
   have hq := e_and2 (cf := cfn K (d + 2)) (σ := ⟨[some (.str (mkS T)), some (.int (pos T (48 :: m :: r'))), some (.int 10), some (.int (pos T (48 :: m :: r'))), some (.int (markb [m])), none, none], none⟩) (e_gt (a := .v 4) (b := .int 0) rfl rfl) fun _ => e_call3 (a := .v 0) (b := .bin .add (.v 1) (.int 2)) (c := .v 4) rfl (e_addZ rfl rfl ((pos2 ..).trans (pos1 ..))) rfl (f28 (d := d) (b := markb [m]) hf (suf_tail (suf_tail hs)))
   show _ = Rs.ok (Out.next ⟨[_, _, some (.int (if decide (0 < markb [m]) && figH (markb [m]) r' then (markb [m], r', false) else (10, 48 :: m :: r', true)).1), some (.int (pos T (if decide (0 < markb [m]) && figH (markb [m]) r' then (markb [m], r', false) else (10, 48 :: m :: r', true)).2.1)), _, _, _], none⟩)
   cases hd : decide (0 < markb [m]) && figH (markb [m]) r'
   ·exact s_F hq hd rfl
   ·exact s_T hq hd (x_setT (e_tup2 rfl (e_addZ rfl rfl ((pos2 ..).trans (pos1 ..)))) rfl)
 ·have : baseF (c :: r) = (10, c :: r, true) := base_no hc
  rw [this]
  exact ⟨none, s_F (e_eqS (x := [c]) (y := [48]) (e_idx hf hs rfl rfl) rfl) (by simpa using hc) rfl⟩
theorem L32 {b : Int} {x1 x3 x4 x6 : Option PyData} (hf : Fit T) : ∀ (k : Nat) (u : List Nat), u <:+ T -> u.length < k ->
  loopW (fun σ => (ev (cfn K (d + 2)) σ (.call 28 (.cons (.v 0) (.cons (.v 5) (.cons (.v 2) .nil))))).bind boolOf) (exc (cfn K (d + 2)) K (.aug 5 .add (.int 1))) k ⟨[some (.str (mkS T)), x1, some (.int b), x3, x4, some (.int (pos T u)), x6], none⟩ =
   .ok (.next ⟨[some (.str (mkS T)), x1, some (.int b), x3, x4, some (.int (pos T (digF b u))), x6], none⟩)
 | 0, _, _, h => absurd h (Nat.not_lt_zero _)
 | k + 1, [], hs, _ => w_stop (e_call3 rfl rfl rfl (f28 hf hs)) rfl
 | k + 1, c :: r, hs, hl => by
  rw [digF_eq]
  cases h : figc b c
  ·exact w_stop (e_call3 rfl rfl rfl (f28 hf hs)) h
  ·exact (w_next (e_call3 rfl rfl rfl (f28 hf hs)) h (x_augZ rfl rfl (pos1 ..))).trans (L32 hf k r (suf_tail hs) (by simpa using hl))
theorem f32 {c : Nat} {r : List Nat} (hf : Fit T) (hK : 4001 <= K) (hs : (c :: r) <:+ T) (hg : gd (c :: r) = true) (hc : figc 10 c = true) : cfn K (d + 4) 32 [.str (mkS T), .int (pos T (c :: r))] = tokR T (c :: r) (numF (c :: r)) := by
 rw [c32]
 have hf' : T.length <= 4000 := hf
 have hb := base_ok hg hc
 obtain ⟨y4, h1⟩ := b32 (K := K) (d := d + 1) hf hs
 unfold numF
 dsimp only
 generalize baseF (c :: r) = b at hb h1 ⊢
 obtain ⟨h4, hsb, hfig, hflag, hrun⟩ := hb
 have hsf := hsb.trans hs
 have hsl := suf_le hsf
 have hL := L32 (K := K) (d := d + 1) (b := b.1) (x1 := some (.int (pos T (c :: r)))) (x3 := some (.int (pos T b.2.1))) (x4 := y4) (x6 := none) hf K b.2.1 hsf (by lia)
 have hvs := dig_suf (b := b.1) b.2.1
 have hall := dig_all (b := b.1) b.2.1
 have hne := dig_ne hfig
 generalize digF b.1 b.2.1 = v at hL hvs hall hne ⊢
 have hv := hvs.trans hsf
 have g31 := f31 (K := K) (d := d) hf hv
 have g29 := f29 (K := K) (d := d) hf hK hv
 have he := nm_suf false false v
 generalize nmF false false v = e at g29 he ⊢
 have pre : ∀ {x : Rs Out}, exc (cfn K (d + 3)) K (.seq (.ite (.and (.cons (.cmp .eq (.v 3) (.v 1)) (.cons (.call 31 (.cons (.v 0) (.cons (.v 5) .nil))) .nil)))
 (.raise (.call 26 (.cons (.v 0) (.cons (.v 1) (.cons (.str ⟨#[102, 108, 111, 97, 116, 105, 110, 103, 45, 112, 111, 105, 110, 116, 32, 110, 117, 109, 98, 101, 114, 32, 108, 101, 102, 116, 32, 111, 117, 116]⟩) .nil))))) .skip)
 (.seq (.set 6 (.call 29 (.cons (.v 0) (.cons (.v 5) .nil))))
 (.seq (.ite (.and (.cons (.cmp .gt (.v 6) (.v 5)) (.cons (.cmp .ne (.idx (.v 0) (.v 5)) (.str ⟨#[58]⟩)) (.cons (.not (.call 30 (.cons (.slSS (.v 0) (.v 5) (.v 6)) .nil))) .nil))))
 (.ret (.tup (.cons (.str ⟨#[119, 111, 114, 100]⟩) (.cons (.slSS (.v 0) (.v 1) (.v 6)) (.cons (.v 1) (.cons (.v 6) .nil)))))) .skip)
 (.ret (.tup (.cons (.str ⟨#[110, 117, 109, 98, 101, 114]⟩) (.cons (.call 6 (.cons (.slSS (.v 0) (.v 3) (.v 5)) (.cons (.v 2) .nil))) (.cons (.v 1) (.cons (.v 5) .nil)))))))))
   ⟨[some (.str (mkS T)), some (.int (pos T (c :: r))), some (.int b.1), some (.int (pos T b.2.1)), y4, some (.int (pos T v)), none], none⟩ = x -> exc (cfn K (d + 3)) K cm32 ⟨[some (.str (mkS T)), some (.int (pos T (c :: r))), none, none, none, none, none], none⟩ = x :=
  fun h => s_setT rfl rfl (s_seq h1 (s_set rfl (s_wh hL h)))
 have hq1 := e_and2 (cf := cfn K (d + 3)) (σ := ⟨[some (.str (mkS T)), some (.int (pos T (c :: r))), some (.int b.1), some (.int (pos T b.2.1)), y4, some (.int (pos T v)), none], none⟩) (e_eqI (a := .v 3) (b := .v 1) rfl rfl) fun _ => e_call2 (a := .v 0) (b := .v 5) rfl rfl g31
 rw [pos_beq, <- hflag] at hq1
 cases hfl : b.2.2 && floatF v
 case true =>
  simp only [if_true]
  have : exc (cfn K (d + 3)) K cm32 ⟨[some (.str (mkS T)), some (.int (pos T (c :: r))), none, none, none, none, none], none⟩ = .exc (exprX T msgF) :=
   pre (x_takeE hq1 hfl (x_raise (e_call3 rfl rfl rfl (f26 (d := d + 1) hf (what := msgF) (by decide) _))))
  rw [this]; rfl
 case false =>
  simp only [Bool.false_eq_true, if_false]
  have hq2 : ev (cfn K (d + 3)) ⟨[some (.str (mkS T)), some (.int (pos T (c :: r))), some (.int b.1), some (.int (pos T b.2.1)), y4, some (.int (pos T v)), some (.int (pos T e))], none⟩ (.and (.cons (.cmp .gt (.v 6) (.v 5)) (.cons (.cmp .ne (.idx (.v 0) (.v 5)) (.str ⟨#[58]⟩)) (.cons (.not (.call 30 (.cons (.slSS (.v 0) (.v 5) (.v 6)) .nil))) .nil)))) =
    .ok (.d (.bool (decide (e.length < v.length) && (!(v.take 1 == [58]) && !isop (dif v e))))) := by
   rw [<- pos_lt (T := T)]
   refine e_and3 (e_gt rfl rfl) (fun h => ?_) (fun _ _ => e_not (e_call1 (e_slc (p_slTo hf hv he) rfl rfl rfl) (f30 _)))
   rw [pos_lt, decide_eq_true_eq] at h
   cases v with
   | nil => exact absurd h (Nat.not_lt_zero _)
   | cons x v' => exact e_neS (x := [x]) (y := [58]) (e_idx hf hv rfl rfl) rfl
  cases hw : decide (e.length < v.length) && (!(v.take 1 == [58]) && !isop (dif v e))
  case true =>
   simp only [if_true]
   have : exc (cfn K (d + 3)) K cm32 ⟨[some (.str (mkS T)), some (.int (pos T (c :: r))), none, none, none, none, none], none⟩ = .ok (.ret (.d (.tuple [wrdS, .str ⟨(dif (c :: r) e).toArray⟩, .int (pos T (c :: r)), .int (pos T e)]))) :=
    pre (s_pass hq1 hfl (s_set (e_call2 rfl rfl g29) (x_take hq2 hw (x_ret (e_tup4 rfl (e_slc (p_slTo hf hs (he.trans (hvs.trans hsb))) rfl rfl rfl) rfl rfl)))))
   rw [this]; rfl
  case false =>
   simp only [Bool.false_eq_true, if_false]
   have hdl := dif_len b.2.1 v
   have : exc (cfn K (d + 3)) K cm32 ⟨[some (.str (mkS T)), some (.int (pos T (c :: r))), none, none, none, none, none], none⟩ = .ok (.ret (.d (.tuple [numS, .int (valF b.1 0 (dif b.2.1 v)), .int (pos T (c :: r)), .int (pos T v)]))) :=
    pre (s_pass hq1 hfl (s_set (e_call2 rfl rfl g29) (s_pass hq2 hw (x_ret (e_tup4 rfl (e_call2 (e_slc (p_slTo hf hsf hvs) rfl rfl rfl) rfl (f6 (d := d + 1) h4.le hne (Nat.le_trans hdl (Nat.le_trans (Nat.sub_le _ _) (Nat.le_trans hsl hf'))) hall)) rfl rfl)))))
   rw [this]; rfl
end
theorem fig_dec : ∀ c < 128, isDigitA c = figc 10 c := by decide +kernel
theorem fig_val : ∀ c < 128, figc 16 c = true -> findFrom ⟨#[48, 49, 50, 51, 52, 53, 54, 55, 56, 57, 97, 98, 99, 100, 101, 102]⟩ (lowerA c) 0 = some (dg c).toNat := by decide +kernel
noncomputable def powF (v : List Nat) : Bool := [[101], [69]].contains (v.take 1) && (figH 10 (v.drop 1) || ([[43], [45]].contains ((v.drop 1).take 1) && figH 10 (v.drop 2)))
theorem pow_float (v : List Nat) : (v.take 1 == [46] || powF v) = floatF v := by
 unfold floatF powF
 cases v with
 | nil => rfl
 | cons c r =>
  by_cases h1 : c = 46
  ·subst h1; rfl
  ·have b1 : ((c :: r).take 1 == [46]) = false := by simpa using h1
   rw [b1]
   by_cases h2 : c = 101 \/ c = 69
   ·have b2 : [[101], [69]].contains ((c :: r).take 1) = true := by rcases h2 with rfl | rfl <;> rfl
    have b3 : (!((c :: r).take 1 == [101]) && !((c :: r).take 1 == [69])) = false := by rcases h2 with rfl | rfl <;> rfl
    rw [b2, b3]
    show (figH 10 r || ([[43], [45]].contains (r.take 1) && figH 10 (r.drop 1))) = if [[43], [45]].contains (r.take 1) then figH 10 (r.drop 1) else figH 10 r
    cases q : [[43], [45]].contains (r.take 1)
    ·simp
    ·have : figH 10 r = false := by
      cases r with
      | nil => rfl
      | cons x r' =>
       simp at q
       rcases q with rfl | rfl <;> rfl
     rw [this]; simp
   ·have b2 : [[101], [69]].contains ((c :: r).take 1) = false := by
     simp only [not_or] at h2
     simp [h2.1, h2.2]
    have b3 : (!((c :: r).take 1 == [101]) && !((c :: r).take 1 == [69])) = true := by
     simp only [not_or] at h2
     simp [h2.1, h2.2]
    rw [b2, b3]; rfl
section
variable {K d : Nat} {T : List Nat} {cf : Cfn} {σ σ' : Sg}
theorem p_slk {L : List Nat} (hf : Fit L) (a b : Nat) (ha : a <= 4000) (hb : b <= 4000) : sliceD (.str (mkS L)) (some (.int (a : Int))) (some (.int (b : Int))) = .ok (.str ⟨((L.drop a).take (b - a)).toArray⟩) := sl_ok hf (by lia) (by lia)
theorem p_slkN {L : List Nat} (hf : Fit L) (b : Nat) (hb : b <= 4000) : sliceD (.str (mkS L)) none (some (.int (b : Int))) = .ok (.str ⟨(L.take b).toArray⟩) := sl_okN hf (by lia)
theorem p_slkF {L : List Nat} (hf : Fit L) (a : Nat) (ha : a <= 4000) : sliceD (.str (mkS L)) (some (.int (a : Int))) none = .ok (.str ⟨(L.drop a).toArray⟩) := sl_okF hf (by lia)
theorem e_slNS {a b : Ex} {y : Int} {z : List Nat} {L : List Nat} (h : sliceD (.str (mkS L)) none (some (.int y)) = .ok (.str ⟨z.toArray⟩)) (ha : ev cf σ a = .ok (.d (.str ⟨L.toArray⟩))) (hb : ev cf σ b = .ok (.d (.int y))) : ev cf σ (.slNS a b) = .ok (.d (.str ⟨z.toArray⟩)) := by
 show (ev cf σ a).bind _ = _
 rw [ha]
 show (ev cf σ b).bind _ = _
 rw [hb]
 show (sliceD (.str (mkS L)) _ _).bind _ = _
 rw [h]; rfl
theorem e_digH {a : Ex} {v : List Nat} (hg : gd v = true) (ha : ev cf σ a = .ok (.d (.str ⟨(v.take 1).toArray⟩))) : ev cf σ (.me .isdigit a .nil) = .ok (.d (.bool (figH 10 v))) := by
 cases v with
 | nil => exact e_dig0 ha
 | cons c r => exact (e_dig (gd_lt hg) ha).trans (by rw [fig_dec c (gd_lt hg)]; rfl)
theorem e_or3 {a b c : Ex} {s t u : Bool} (ha : ev cf σ a = .ok (.d (.bool s))) (hb : s = false -> ev cf σ b = .ok (.d (.bool t))) (hc : s = false -> t = false -> ev cf σ c = .ok (.d (.bool u))) : ev cf σ (.or (.cons a (.cons b (.cons c .nil)))) = .ok (.d (.bool (s || (t || u)))) := by
 show ((ev cf σ a).bind _).bind _ = _
 rw [ha]
 cases s
 ·show (((ev cf σ b).bind _)).bind _ = _
  rw [hb rfl]
  cases t
  ·show (((ev cf σ c).bind _)).bind _ = _
   rw [hc rfl rfl]
   cases u <;> rfl
  ·rfl
 ·rfl
theorem me_find {x : Str} {xs : List PyData} : meD .find (.str x) xs = (findD x xs).bind fun o => .ok (.int (match o with | some k => (k : Int) | none => -1)) := rfl
theorem me_index {x : Str} {xs : List PyData} : meD .index (.str x) xs = (findD x xs).bind fun o => Rs.opt o fun k => .ok (.int k) := rfl
theorem find_none {y : Nat} (h : y ≠ 120 /\ y ≠ 111 /\ y ≠ 98 /\ y ≠ 100) : meD .find (.str ⟨#[120, 111, 98, 100]⟩) [.str ⟨[y].toArray⟩] = .ok (.int (-1)) := by
 rw [me_find, fd_one (by decide)]
 have : findFrom ⟨#[120, 111, 98, 100]⟩ y 0 = none := by
  unfold findFrom
  show ([120, 111, 98, 100].findIdx? (· == y)).map _ = none
  have e1 : (120 == y) = false := by simpa using Ne.symm h.1
  have e2 : (111 == y) = false := by simpa using Ne.symm h.2.1
  have e3 : (98 == y) = false := by simpa using Ne.symm h.2.2.1
  have e4 : (100 == y) = false := by simpa using Ne.symm h.2.2.2
  simp [List.findIdx?_cons, e1, e2, e3, e4]
 rw [this]; rfl
theorem e_lower {a : Ex} {c : Nat} (hc : c < 128) (ha : ev cf σ a = .ok (.d (.str ⟨[c].toArray⟩))) : ev cf σ (.me .lower a .nil) = .ok (.d (.str ⟨[lowerA c].toArray⟩)) := by
 show (ev cf σ a).bind _ = _
 rw [ha]
 show (if c < 128 then Rs.ok (PyData.str (sing (lowerA c))) else .stuck).bind _ = _
 rw [if_pos hc]; rfl
noncomputable abbrev M48 : Cm := .seq (.set 4 (.ite (.and (.cons (.cmp .eq (.idx (.v 0) (.v 1)) (.str ⟨#[48]⟩)) (.cons (.cmp .ne (.slSS (.v 0) (.bin .add (.v 1) (.int 1)) (.bin .add (.v 1) (.int 2))) (.str ⟨#[]⟩)) .nil))) (.me .find (.str ⟨#[120, 111, 98, 100]⟩) (.cons (.me .lower (.slSS (.v 0) (.bin .add (.v 1) (.int 1)) (.bin .add (.v 1) (.int 2))) .nil) .nil)) (.neg (.int 1))))
 (.seq (.ite (.and (.cons (.cmp .ge (.v 4) (.int 0)) (.cons (.call 41 (.cons (.slSS (.v 0) (.bin .add (.v 1) (.int 2)) (.bin .add (.v 1) (.int 3))) (.cons (.idx (.tup (.cons (.int 16) (.cons (.int 8) (.cons (.int 2) (.cons (.int 10) .nil))))) (.v 4)) .nil))) .nil)))
 (.setT [2, 3] (.tup (.cons (.idx (.tup (.cons (.int 16) (.cons (.int 8) (.cons (.int 2) (.cons (.int 10) .nil))))) (.v 4)) (.cons (.int 2) .nil)))) .skip)
 (.setT [5, 6] (.tup (.cons (.bin .add (.v 1) (.v 3)) (.cons (.int 0) .nil)))))
theorem f41H {b : Int} {v : List Nat} (hg : gd v = true) (hb : B4 b) : cfn K (d + 1) 41 [.str ⟨(v.take 1).toArray⟩, .int b] = .ok (.d (.bool (figH b v))) := by
 cases v with
 | nil => exact f41n
 | cons c r => exact f41c (gd_lt hg) hb
theorem m48 {c : Nat} {r : List Nat} (hf : Fit T) (hs : (c :: r) <:+ T) (hg : gd (c :: r) = true) : ∃ y4,
  exc (cfn K (d + 1)) K M48 ⟨[some (.str (mkS T)), some (.int (pos T (c :: r))), some (.int 10), some (.int 0), none, none, none, none, none, none, none, none], none⟩ =
   .ok (.next ⟨[some (.str (mkS T)), some (.int (pos T (c :: r))), some (.int (baseF (c :: r)).1), some (.int (if (baseF (c :: r)).2.2 then 0 else 2)), y4, some (.int (pos T (baseF (c :: r)).2.1)), some (.int 0), none, none, none, none, none], none⟩) := by
 have none_ : ∀ {σ : Sg}, σ = ⟨[some (.str (mkS T)), some (.int (pos T (c :: r))), some (.int 10), some (.int 0), none, none, none, none, none, none, none, none], none⟩ -> (ev (cfn K (d + 1)) σ (.ite (.and (.cons (.cmp .eq (.idx (.v 0) (.v 1)) (.str ⟨#[48]⟩)) (.cons (.cmp .ne (.slSS (.v 0) (.bin .add (.v 1) (.int 1)) (.bin .add (.v 1) (.int 2))) (.str ⟨#[]⟩)) .nil))) (.me .find (.str ⟨#[120, 111, 98, 100]⟩) (.cons (.me .lower (.slSS (.v 0) (.bin .add (.v 1) (.int 1)) (.bin .add (.v 1) (.int 2))) .nil) .nil)) (.neg (.int 1)))) = .ok (.d (.int (-1))) ->
   exc (cfn K (d + 1)) K M48 σ = .ok (.next ⟨[some (.str (mkS T)), some (.int (pos T (c :: r))), some (.int 10), some (.int 0), some (.int (-1)), some (.int (pos T (c :: r))), some (.int 0), none, none, none, none, none], none⟩) := by
  rintro σ rfl h
  exact s_set h (s_seq (s_F (e_and2 (t := false) (e_ge (x := -1) rfl rfl) fun h => by cases h) rfl rfl) (x_setT (e_tup2 (e_addZ rfl rfl (Int.add_zero _)) rfl) rfl))
 have nobase : baseF (c :: r) = (10, c :: r, true) -> ev (cfn K (d + 1)) ⟨[some (.str (mkS T)), some (.int (pos T (c :: r))), some (.int 10), some (.int 0), none, none, none, none, none, none, none, none], none⟩ (.ite (.and (.cons (.cmp .eq (.idx (.v 0) (.v 1)) (.str ⟨#[48]⟩)) (.cons (.cmp .ne (.slSS (.v 0) (.bin .add (.v 1) (.int 1)) (.bin .add (.v 1) (.int 2))) (.str ⟨#[]⟩)) .nil))) (.me .find (.str ⟨#[120, 111, 98, 100]⟩) (.cons (.me .lower (.slSS (.v 0) (.bin .add (.v 1) (.int 1)) (.bin .add (.v 1) (.int 2))) .nil) .nil)) (.neg (.int 1))) = .ok (.d (.int (-1))) ->
   ∃ y4, exc (cfn K (d + 1)) K M48 ⟨[some (.str (mkS T)), some (.int (pos T (c :: r))), some (.int 10), some (.int 0), none, none, none, none, none, none, none, none], none⟩ =
   .ok (.next ⟨[some (.str (mkS T)), some (.int (pos T (c :: r))), some (.int (baseF (c :: r)).1), some (.int (if (baseF (c :: r)).2.2 then 0 else 2)), y4, some (.int (pos T (baseF (c :: r)).2.1)), some (.int 0), none, none, none, none, none], none⟩) := fun h1 h2 => by
  rw [h1]; exact ⟨_, none_ rfl h2⟩
 by_cases hc : c = 48
 ·subst hc
  cases r with
  | nil =>
   refine nobase ?_ ?_
   ·show (if decide (0 < markb []) && figH (markb []) [] then (markb [], [], false) else ((10 : Int), [48], true)) = _
    rw [mark_nil]; rfl
   ·refine (?_ : ev _ _ (.ite _ _ _) = _)
    show (ev _ _ (.and _)).bind _ = _
    rw [e_and2 (s := true) (t := false) (e_eqS (x := [48]) (y := [48]) (e_idx hf hs rfl rfl) rfl) (fun _ => e_neS (y := []) (e_slc (p_sl12 hf hs) rfl (e_add rfl rfl) (e_add rfl rfl)) rfl)]
    rfl
  | cons m r' =>
   have hg' := gd_tail hg
   have hm := gd_lt hg'
   have hand : ∀ {σ : Sg}, σ = ⟨[some (.str (mkS T)), some (.int (pos T (48 :: m :: r'))), some (.int 10), some (.int 0), none, none, none, none, none, none, none, none], none⟩ -> ∀ z, meD .find (.str ⟨#[120, 111, 98, 100]⟩) [.str ⟨[lowerA m].toArray⟩] = .ok (.int z) ->
     ev (cfn K (d + 1)) σ (.ite (.and (.cons (.cmp .eq (.idx (.v 0) (.v 1)) (.str ⟨#[48]⟩)) (.cons (.cmp .ne (.slSS (.v 0) (.bin .add (.v 1) (.int 1)) (.bin .add (.v 1) (.int 2))) (.str ⟨#[]⟩)) .nil))) (.me .find (.str ⟨#[120, 111, 98, 100]⟩) (.cons (.me .lower (.slSS (.v 0) (.bin .add (.v 1) (.int 1)) (.bin .add (.v 1) (.int 2))) .nil) .nil)) (.neg (.int 1))) = .ok (.d (.int z)) := by
    rintro σ rfl z hz
    exact e_ite (t := true) (v := .d (.int z)) (w := .d (.int (-1))) (e_and2 (s := true) (t := true) (e_eqS (x := [48]) (y := [48]) (e_idx hf hs rfl rfl) rfl) (fun _ => e_neS (y := []) (e_slc (p_sl12 hf hs) rfl (e_add rfl rfl) (e_add rfl rfl)) rfl)) (e_me1 rfl (e_lower hm (e_slc (p_sl12 hf hs) rfl (e_add rfl rfl) (e_add rfl rfl))) hz) rfl
   have some_ : ∀ (z : Int), 0 <= z -> B4 (markb [m]) -> 0 < markb [m] -> idxD (.tuple [.int 16, .int 8, .int 2, .int 10]) (.int z) = .ok (.int (markb [m])) -> meD .find (.str ⟨#[120, 111, 98, 100]⟩) [.str ⟨[lowerA m].toArray⟩] = .ok (.int z) ->
     ∃ y4, exc (cfn K (d + 1)) K M48 ⟨[some (.str (mkS T)), some (.int (pos T (48 :: m :: r'))), some (.int 10), some (.int 0), none, none, none, none, none, none, none, none], none⟩ =
   .ok (.next ⟨[some (.str (mkS T)), some (.int (pos T (48 :: m :: r'))), some (.int (baseF (48 :: m :: r')).1), some (.int (if (baseF (48 :: m :: r')).2.2 then 0 else 2)), y4, some (.int (pos T (baseF (48 :: m :: r')).2.1)), some (.int 0), none, none, none, none, none], none⟩) := by
    intro z hz hb4 hpos hidx hfind
    refine ⟨some (.int z), s_set (hand rfl z hfind) ?_⟩
    have hix : ∀ {x2 x3 : Option PyData}, ev (cfn K (d + 1)) ⟨[some (.str (mkS T)), some (.int (pos T (48 :: m :: r'))), x2, x3, some (.int z), none, none, none, none, none, none, none], none⟩ (.idx (.tup (.cons (.int 16) (.cons (.int 8) (.cons (.int 2) (.cons (.int 10) .nil))))) (.v 4)) = .ok (.d (.int (markb [m]))) := by
     intro x2 x3
     show (idxD (.tuple [.int 16, .int 8, .int 2, .int 10]) (.int z)).bind _ = _
     rw [hidx]; rfl
    have hq := e_and2 (cf := cfn K (d + 1)) (σ := ⟨[some (.str (mkS T)), some (.int (pos T (48 :: m :: r'))), some (.int 10), some (.int 0), some (.int z), none, none, none, none, none, none, none], none⟩) (e_ge (a := .v 4) (b := .int 0) rfl rfl) fun _ => e_call2 (a := .slSS (.v 0) (.bin .add (.v 1) (.int 2)) (.bin .add (.v 1) (.int 3))) (e_slc (p_sl23 hf hs) rfl (e_add rfl rfl) (e_add rfl rfl)) hix (f41H (K := K) (d := d) (v := r') (gd_tail hg') hb4)
    rw [decide_eq_true hz, Bool.true_and] at hq
    have eb : baseF (48 :: m :: r') = if figH (markb [m]) r' then (markb [m], r', false) else (10, 48 :: m :: r', true) := by
     show (if decide (0 < markb [m]) && figH (markb [m]) r' then (markb [m], r', false) else ((10 : Int), 48 :: m :: r', true)) = _
     rw [decide_eq_true hpos, Bool.true_and]
    rw [eb]
    cases hfg : figH (markb [m]) r'
    ·exact s_seq (s_F hq hfg rfl) (x_setT (e_tup2 (e_addZ rfl rfl (Int.add_zero _)) rfl) rfl)
    ·exact s_seq (s_T hq hfg (x_setT (e_tup2 hix rfl) rfl)) (x_setT (e_tup2 (e_addZ rfl rfl ((pos2 ..).trans (pos1 ..))) rfl) rfl)
   rcases mark_cases m hm with ⟨h1, h2⟩ | ⟨h1, h2⟩ | ⟨h1, h2⟩ | ⟨h1, h2⟩ | ⟨h1, h2⟩
   ·exact some_ 0 (by decide) (by rw [h2]; exact .inl rfl) (by rw [h2]; decide) (by rw [h2]; rfl) (by rw [h1]; rfl)
   ·exact some_ 1 (by decide) (by rw [h2]; exact .inr (.inl rfl)) (by rw [h2]; decide) (by rw [h2]; rfl) (by rw [h1]; rfl)
   ·exact some_ 2 (by decide) (by rw [h2]; exact .inr (.inr (.inl rfl))) (by rw [h2]; decide) (by rw [h2]; rfl) (by rw [h1]; rfl)
   ·exact some_ 3 (by decide) (by rw [h2]; exact .inr (.inr (.inr rfl))) (by rw [h2]; decide) (by rw [h2]; rfl) (by rw [h1]; rfl)
   ·refine nobase ?_ (hand rfl _ (find_none h1))
    show (if decide (0 < markb [m]) && figH (markb [m]) r' then (markb [m], r', false) else ((10 : Int), 48 :: m :: r', true)) = _
    rw [h2]; rfl
 ·refine nobase ?_ ?_
  ·exact base_no hc
  ·show (ev _ _ (.and _)).bind _ = _
   have hq : ([c] == [48]) = false := by simpa using hc
   rw [e_and2 (t := false) (e_eqS (x := [c]) (y := [48]) (e_idx hf hs rfl rfl) rfl) (fun h => by rw [hq] at h; cases h), hq]
   rfl
end
section
variable {K d : Nat} {T : List Nat} {cf : Cfn} {σ σ' : Sg}
noncomputable abbrev B48 : Cm := .seq (.set 6 (.bin .add (.bin .mul (.v 2) (.v 6)) (.me .index (.str ⟨#[48, 49, 50, 51, 52, 53, 54, 55, 56, 57, 97, 98, 99, 100, 101, 102]⟩) (.cons (.me .lower (.idx (.v 0) (.v 7)) .nil) .nil))))
 (.set 7 (.bin .add (.v 7) (.int 1)))
theorem m_ix {c : Nat} (hc : c < 128) (h : figc 16 c = true) : meD .index (.str ⟨#[48, 49, 50, 51, 52, 53, 54, 55, 56, 57, 97, 98, 99, 100, 101, 102]⟩) [.str ⟨[lowerA c].toArray⟩] = .ok (.int (dg c)) := by
 rw [me_index, fd_one (by decide), fig_val c hc h]
 show Rs.ok (PyData.int ((dg c).toNat : Int)) = _
 have := (fig_iff h).1
 rw [Int.toNat_of_nonneg this]
theorem fig_16 {b : Int} {c : Nat} (hb : B4 b) (h : figc b c = true) : figc 16 c = true := by
 have := fig_iff h
 unfold figc
 rw [decide_eq_true this.1, decide_eq_true (show dg c < 16 by rcases hb with rfl | rfl | rfl | rfl <;> lia)]; rfl
theorem L48 {b : Int} (hb : B4 b) {x1 x3 x4 x5 : Option PyData} (hf : Fit T) : ∀ (k : Nat) (u : List Nat) (v : Int), u <:+ T -> gd u = true -> u.length < k ->
  loopW (fun σ => (ev (cfn K (d + 1)) σ (.call 41 (.cons (.slSS (.v 0) (.v 7) (.bin .add (.v 7) (.int 1))) (.cons (.v 2) .nil)))).bind boolOf) (exc (cfn K (d + 1)) K B48) k ⟨[some (.str (mkS T)), x1, some (.int b), x3, x4, x5, some (.int v), some (.int (pos T u)), none, none, none, none], none⟩ =
   .ok (.next ⟨[some (.str (mkS T)), x1, some (.int b), x3, x4, x5, some (.int (valF b v (dif u (digF b u)))), some (.int (pos T (digF b u))), none, none, none, none], none⟩)
 | 0, _, _, _, _, h => absurd h (Nat.not_lt_zero _)
 | k + 1, [], v, hs, _, _ => w_stop (e_call2 (e_slc (p_sl01 hf hs) rfl rfl (e_add rfl rfl)) rfl (f41H (K := K) (d := d) (v := []) rfl hb)) rfl
 | k + 1, c :: r, v, hs, hg, hl => by
  have ht := e_call2 (cf := cfn K (d + 1)) (σ := ⟨[some (.str (mkS T)), x1, some (.int b), x3, x4, x5, some (.int v), some (.int (pos T (c :: r))), none, none, none, none], none⟩) (a := .slSS (.v 0) (.v 7) (.bin .add (.v 7) (.int 1))) (b := .v 2) (e_slc (p_sl01 hf hs) rfl rfl (e_add rfl rfl)) rfl (f41H (K := K) (d := d) hg hb)
  cases h : figc b c
  ·have e : digF b (c :: r) = c :: r := by
    rw [digF_eq]
    exact if_neg (by rw [h]; decide)
   rw [e, dif_self]
   exact w_stop ht h
  ·have e : digF b (c :: r) = digF b r := by
    rw [digF_eq]
    exact if_pos h
   rw [e, dif_cons (dig_suf r).length_le]
   have hbl := hb.le
   refine (w_next ht h (s_set (e_addZ (z := v * b + dg c) (e_mul rfl rfl (.inl hb.abs)) (e_me1 rfl (e_lower (gd_lt hg) (e_idx hf hs rfl rfl)) (m_ix (gd_lt hg) (fig_16 hb h))) (by rw [Int.mul_comm])) (x_set (e_addZ rfl rfl (pos1 ..))))).trans ?_
   exact L48 hb hf k r (v * b + dg c) (suf_tail hs) (gd_tail hg) (by simpa using hl)
theorem gd_drop {v : List Nat} (h : gd v = true) (n : Nat) : gd (v.drop n) = true := gd_suf (List.drop_suffix n v) h
theorem take1_3 (v : List Nat) : (v.take 3).take 1 = v.take 1 := by rw [List.take_take]; rfl
theorem f48 {c : Nat} {r : List Nat} (hf : Fit T) (hK : 4001 <= K) (hs : (c :: r) <:+ T) (hg : gd (c :: r) = true) (hc : figc 10 c = true) : cfn K (d + 2) 48 [.str (mkS T), .int (pos T (c :: r))] = tokR T (c :: r) (numF (c :: r)) := by
 rw [c48]
 have hf' : T.length <= 4000 := hf
 have hb := base_ok hg hc
 obtain ⟨y4, h1⟩ := m48 (K := K) (d := d) hf hs hg
 have g42 := f42 (K := K) (d := d) (n := false) hf hK hs hg
 unfold numF
 dsimp only
 generalize baseF (c :: r) = b at hb h1 ⊢
 obtain ⟨h4, hsb, hfig, hflag, hrun⟩ := hb
 have hsf := hsb.trans hs
 have hsl := suf_le hsf
 have hL := L48 (K := K) (d := d) (b := b.1) h4 (x1 := some (.int (pos T (c :: r)))) (x3 := some (.int (if b.2.2 then 0 else 2))) (x4 := y4) (x5 := some (.int (pos T b.2.1))) hf K b.2.1 0 hsf (gd_suf hsb hg) (Nat.lt_of_lt_of_le (Nat.lt_succ_of_le (Nat.le_trans hsl hf)) hK)
 have hvs := dig_suf (b := b.1) b.2.1
 rw [hrun, nm_dig (b := b.1) b.2.1] at g42
 generalize digF b.1 b.2.1 = v at hL hvs g42 ⊢
 have hv := hvs.trans hsf
 have hgv := gd_suf (hvs.trans hsb) hg
 have he := nm_suf false false v
 generalize nmF false false v = e at g42 he ⊢
 have hfv : Fit (v.take 3) := Nat.le_trans (List.length_take_le 3 v) (by decide)
 let S9 : PyData -> Sg := fun x => ⟨[some (.str (mkS T)), some (.int (pos T (c :: r))), some (.int b.1), some (.int (if b.2.2 then 0 else 2)), y4, some (.int (pos T b.2.1)), some (.int (valF b.1 0 (dif b.2.1 v))), some (.int (pos T v)), some (.str ⟨(v.take 3).toArray⟩), some x, none, none], none⟩
 have hp9 : ∀ {x9 : Option PyData}, ev (cfn K (d + 1)) ⟨[some (.str (mkS T)), some (.int (pos T (c :: r))), some (.int b.1), some (.int (if b.2.2 then 0 else 2)), y4, some (.int (pos T b.2.1)), some (.int (valF b.1 0 (dif b.2.1 v))), some (.int (pos T v)), some (.str ⟨(v.take 3).toArray⟩), x9, none, none], none⟩
   (.and (.cons (.cmp .in_ (.slNS (.v 8) (.int 1)) (.tup (.cons (.str ⟨#[101]⟩) (.cons (.str ⟨#[69]⟩) .nil)))) (.cons (.or (.cons (.me .isdigit (.slSS (.v 8) (.int 1) (.int 2)) .nil) (.cons (.and (.cons (.cmp .in_ (.slSS (.v 8) (.int 1) (.int 2)) (.tup (.cons (.str ⟨#[43]⟩) (.cons (.str ⟨#[45]⟩) .nil)))) (.cons (.me .isdigit (.slSN (.v 8) (.int 2)) .nil) .nil))) .nil))) .nil))) = .ok (.d (.bool (powF v))) := by
  intro x9
  have s1 := p_slkN hfv 1 (by decide)
  have s2 := p_slk hfv 1 2 (by decide) (by decide)
  have s3 := p_slkF hfv 2 (by decide)
  have t1 : (v.take 3).take 1 = v.take 1 := take1_3 v
  have t2 : ((v.take 3).drop 1).take (2 - 1) = (v.drop 1).take 1 := by rw [List.drop_take, List.take_take]; rfl
  have t3 : (v.take 3).drop 2 = (v.drop 2).take 1 := by rw [List.drop_take]
  rw [t1] at s1
  rw [t2] at s2
  rw [t3] at s3
  exact e_and2 (e_inT [[101], [69]] (e_slNS s1 rfl rfl) rfl) fun _ => e_or2 (e_digH (v := v.drop 1) (gd_drop hgv 1) (e_slc s2 rfl rfl rfl)) fun _ => e_and2 (e_inT [[43], [45]] (e_slc s2 rfl rfl rfl) rfl) fun _ => e_digH (v := v.drop 2) (gd_drop hgv 2) (e_slN s3 rfl rfl)
 have hq1 : ev (cfn K (d + 1)) (S9 (.bool (powF v))) (.and (.cons (.cmp .eq (.v 3) (.int 0)) (.cons (.or (.cons (.cmp .eq (.slNS (.v 8) (.int 1)) (.str ⟨#[46]⟩)) (.cons (.v 9) .nil))) .nil))) = .ok (.d (.bool (b.2.2 && floatF v))) := by
  have s1 := p_slkN hfv 1 (by decide)
  rw [take1_3 v] at s1
  refine (e_and2 (e_eqI rfl rfl) fun _ => e_or2 (e_eqS (y := [46]) (e_slNS s1 rfl rfl) rfl) fun _ => e_v rfl).trans ?_
  rw [pow_float]
  cases b.2.2 <;> rfl
 have pre : ∀ {x : Rs Out}, exc (cfn K (d + 1)) K (.seq (.ite (.and (.cons (.cmp .eq (.v 3) (.int 0)) (.cons (.or (.cons (.cmp .eq (.slNS (.v 8) (.int 1)) (.str ⟨#[46]⟩)) (.cons (.v 9) .nil))) .nil)))
 (.raise (.call 40 (.cons (.v 0) (.cons (.str ⟨#[102, 108, 111, 97, 116, 105, 110, 103, 45, 112, 111, 105, 110, 116, 32, 110, 117, 109, 98, 101, 114, 32, 108, 101, 102, 116, 32, 111, 117, 116]⟩) .nil)))) .skip)
 (.seq (.set 10 (.call 42 (.cons (.v 0) (.cons (.v 1) (.cons (.bool false) .nil)))))
 (.seq (.set 11 (.slSS (.v 0) (.v 7) (.v 10)))
 (.seq (.ite (.or (.cons (.cmp .eq (.v 11) (.str ⟨#[]⟩)) (.cons (.cmp .eq (.idx (.v 11) (.int 0)) (.str ⟨#[58]⟩)) (.cons (.call 49 (.cons (.v 11) .nil)) .nil))))
 (.ret (.tup (.cons (.str ⟨#[110, 117, 109, 98, 101, 114]⟩) (.cons (.v 6) (.cons (.v 1) (.cons (.v 7) .nil)))))) .skip)
 (.ret (.tup (.cons (.str ⟨#[119, 111, 114, 100]⟩) (.cons (.slSS (.v 0) (.v 1) (.v 10)) (.cons (.v 1) (.cons (.v 10) .nil)))))))))) (S9 (.bool (powF v))) = x ->
   exc (cfn K (d + 1)) K cm48 ⟨[some (.str (mkS T)), some (.int (pos T (c :: r))), none, none, none, none, none, none, none, none, none, none], none⟩ = x := by
  intro x h
  have hM : exc (cfn K (d + 1)) K M48 ⟨[some (.str (mkS T)), some (.int (pos T (c :: r))), some (.int 10), some (.int 0), none, none, none, none, none, none, none, none], none⟩ = _ := h1
  refine s_setT rfl rfl ?_
  have split3 : ∀ {a b c e : Cm} {σ σ' : Sg} {x : Rs Out}, exc (cfn K (d + 1)) K (.seq a (.seq b c)) σ = .ok (.next σ') -> exc (cfn K (d + 1)) K e σ' = x -> exc (cfn K (d + 1)) K (.seq a (.seq b (.seq c e))) σ = x := by
   intro a b c e σ σ' x ha hx
   have assoc : ∀ p q w : Cm, ∀ σ, exc (cfn K (d + 1)) K (.seq (.seq p q) w) σ = exc (cfn K (d + 1)) K (.seq p (.seq q w)) σ := by
    intro p q w σ
    show ((exc (cfn K (d + 1)) K p σ).bind _).bind _ = (exc (cfn K (d + 1)) K p σ).bind _
    cases exc (cfn K (d + 1)) K p σ with
    | stuck => rfl
    | exc x => rfl
    | ok o => cases o <;> rfl
   have h2 : exc (cfn K (d + 1)) K (.seq (.seq a (.seq b c)) e) σ = x := s_seq ha hx
   rw [assoc] at h2
   have h3 : ∀ σ, exc (cfn K (d + 1)) K (.seq (.seq b c) e) σ = exc (cfn K (d + 1)) K (.seq b (.seq c e)) σ := assoc b c e
   have h4 : exc (cfn K (d + 1)) K (.seq a (.seq b (.seq c e))) σ = exc (cfn K (d + 1)) K (.seq a (.seq (.seq b c) e)) σ := by
    show (exc (cfn K (d + 1)) K a σ).bind _ = (exc (cfn K (d + 1)) K a σ).bind _
    cases exc (cfn K (d + 1)) K a σ with
    | stuck => rfl
    | exc x => rfl
    | ok o =>
     cases o with
     | next s => exact (h3 s).symm
     | _ => rfl
   rw [h4, h2]
  refine split3 hM (s_set rfl (s_wh hL ?_))
  exact s_set (e_slc (p_sl03 hf hv) rfl rfl (e_add rfl rfl)) (s_set hp9 h)
 show Rs.bind (exc (cfn K (d + 1)) K cm48 ⟨[some (.str (mkS T)), some (.int (pos T (c :: r))), none, none, none, none, none, none, none, none, none, none], none⟩) outV = _
 cases hfl : b.2.2 && floatF v
 case true =>
  simp only [if_true]
  rw [pre (x_takeE hq1 hfl (x_raise (e_call2 rfl rfl (f40 (d := d) hf (what := msgF) (by decide)))))]; rfl
 case false =>
  simp only [Bool.false_eq_true, if_false]
  let S11 : Sg := ⟨[some (.str (mkS T)), some (.int (pos T (c :: r))), some (.int b.1), some (.int (if b.2.2 then 0 else 2)), y4, some (.int (pos T b.2.1)), some (.int (valF b.1 0 (dif b.2.1 v))), some (.int (pos T v)), some (.str ⟨(v.take 3).toArray⟩), some (.bool (powF v)), some (.int (pos T e)), some (.str ⟨(dif v e).toArray⟩)], none⟩
  have hel := he.length_le
  have hq2 : ev (cfn K (d + 1)) S11 (.or (.cons (.cmp .eq (.v 11) (.str ⟨#[]⟩)) (.cons (.cmp .eq (.idx (.v 11) (.int 0)) (.str ⟨#[58]⟩)) (.cons (.call 49 (.cons (.v 11) .nil)) .nil)))) = .ok (.d (.bool (!(decide (e.length < v.length) && (!(v.take 1 == [58]) && !isop (dif v e)))))) := by
   by_cases hlt : e.length < v.length
   ·cases v with
    | nil => exact absurd hlt (Nat.not_lt_zero _)
    | cons x v' =>
     have hd : dif (x :: v') e = x :: dif v' e := dif_cons (Nat.le_of_lt_succ hlt)
     have hfd : Fit (dif (x :: v') e) := Nat.le_trans (dif_len _ _) (Nat.le_trans (Nat.sub_le _ _) (Nat.le_trans (suf_le hv) hf))
     have hix := p_idx (T := dif (x :: v') e) (c := x) (r := dif v' e) hfd (by rw [hd]; exact List.suffix_refl _)
     have hz : pos (dif (x :: v') e) (x :: dif v' e) = 0 := by rw [<- hd]; exact pos_self _
     rw [hz] at hix
     have hx0 : ev (cfn K (d + 1)) S11 (.idx (.v 11) (.int 0)) = .ok (.d (.str ⟨[x].toArray⟩)) := by
      show (idxD (.str (mkS (dif (x :: v') e))) (.int 0)).bind _ = _
      rw [hix]; rfl
     refine (e_or3 (e_eqS (x := dif (x :: v') e) (y := []) rfl rfl) (fun _ => e_eqS (x := [x]) (y := [58]) hx0 rfl) (fun _ _ => e_call1 rfl (f49 (d := d) _))).trans ?_
     have hne : (dif (x :: v') e == []) = false := by rw [hd]; rfl
     rw [hne, decide_eq_true hlt]
     simp
   ·have hee : e = v := he.eq_of_length (Nat.le_antisymm hel (Nat.not_lt.mp hlt))
    subst hee
    refine (e_or3 (s := true) (t := false) (u := false) ?_ (fun h => by cases h) (fun h => by cases h)).trans ?_
    ·refine (e_eqS (x := dif e e) (y := []) rfl rfl).trans ?_
     rw [dif_self]; rfl
    ·rw [decide_eq_false hlt]; rfl
  have hdv : v.length <= 4000 := Nat.le_trans (suf_le hv) hf
  cases hw : decide (e.length < v.length) && (!(v.take 1 == [58]) && !isop (dif v e))
  case true =>
   simp only [if_true]
   rw [pre (x := .ok (.ret (.d (.tuple [wrdS, .str ⟨(dif (c :: r) e).toArray⟩, .int (pos T (c :: r)), .int (pos T e)])))) (s_pass hq1 hfl (s_set (e_call3 rfl rfl rfl g42) (s_set (e_slc (p_slTo hf hv he) rfl rfl rfl) (s_pass hq2 (by rw [hw]; rfl) (x_ret (e_tup4 rfl (e_slc (p_slTo hf hs (he.trans (hvs.trans hsb))) rfl rfl rfl) rfl rfl))))))]; rfl
  case false =>
   simp only [Bool.false_eq_true, if_false]
   rw [pre (x := .ok (.ret (.d (.tuple [numS, .int (valF b.1 0 (dif b.2.1 v)), .int (pos T (c :: r)), .int (pos T v)])))) (s_pass hq1 hfl (s_set (e_call3 rfl rfl rfl g42) (s_set (e_slc (p_slTo hf hv he) rfl rfl rfl) (x_take hq2 (by rw [hw]; rfl) (x_ret (e_tup4 rfl rfl rfl rfl))))))]; rfl
end
noncomputable abbrev Err := List Nat ⊕ List Nat
noncomputable def errX (T : List Nat) : Err -> Xc
 | .inl m => plainX m
 | .inr m => exprX T m
noncomputable def opS : PyData := .str ⟨[111, 112].toArray⟩
noncomputable def partsS : PyData := .str ⟨[112, 97, 114, 116, 115].toArray⟩
noncomputable def textS : PyData := .str ⟨[116, 101, 120, 116].toArray⟩
noncomputable def msgI : List Nat := [105, 110, 118, 97, 108, 105, 100, 32, 99, 104, 97, 114, 97, 99, 116, 101, 114, 32, 34]
noncomputable def msgD : List Nat := [105, 110, 118, 97, 108, 105, 100, 32, 99, 104, 97, 114, 97, 99, 116, 101, 114, 32, 34, 36, 34]
noncomputable def msgE : List Nat := [105, 110, 99, 111, 109, 112, 108, 101, 116, 101, 32, 111, 112, 101, 114, 97, 116, 111, 114, 32, 34, 61, 34]
noncomputable def msgQ : List Nat := [109, 105, 115, 115, 105, 110, 103, 32, 34]
noncomputable def twos : List (List Nat) := [[42, 42], [60, 60], [62, 62], [60, 61], [62, 61], [61, 61], [33, 61], [38, 38], [124, 124]]
noncomputable def ones : List (List Nat) := [[43], [45], [42], [47], [37], [126], [33], [60], [62], [38], [94], [124], [63], [58]]
noncomputable def opF (u : List Nat) : List Nat := if twos.contains (u.take 2) then u.take 2 else if ones.contains (u.take 1) then u.take 1 else []
noncomputable def sgnF (c : Nat) (r : List Nat) : Except Err (PyData × PyData × List Nat) :=
 if !(opF (c :: r) == []) then .ok (opS, .str ⟨(opF (c :: r)).toArray⟩, (c :: r).drop (opF (c :: r)).length)
 else if figc 10 c then (match numF (c :: r) with | .error m => .error (.inr m) | .ok v => .ok v)
 else if wordc c then .ok (if isop (dif (c :: r) (nmF false false (c :: r))) then opS else wrdS, .str ⟨(dif (c :: r) (nmF false false (c :: r))).toArray⟩, nmF false false (c :: r))
 else if c == 46 && figH 10 r then .error (.inr msgF)
 else if c == 61 then .error (.inr msgE)
 else .error (.inr (msgI ++ [c] ++ [34]))
noncomputable def tokF (F : Nat) : List Nat -> Except Err (PyData × PyData × List Nat)
 | [] => .error (.inl [])
 | c :: r =>
  if c == 36 then
   (match dolF F r with
   | .error m => .error (.inl m)
   | .ok (none, _) => .error (.inr msgD)
   | .ok (some p, e) => .ok (partsS, .tuple [varP p.1 p.2], e))
  else if c == 91 then .ok (partsS, .tuple [cmdP (dif r (dropC 93 r))], (dropC 93 r).drop 1)
  else if c == 34 then
   (match fillF F 34 [] [] r with
   | .error m => .error (.inl m)
   | .ok (_, []) => .error (.inl msgQ)
   | .ok (ps, _ :: e) => .ok (partsS, .tuple ps, e))
  else if c == 123 then
   (match brcF F 1 [] r with
   | none => .error (.inl msgC)
   | some (a, e) => .ok (textS, .str ⟨a.toArray⟩, e))
  else if c == 40 || c == 41 || c == 44 then .ok (.str ⟨[c].toArray⟩, .str ⟨[c].toArray⟩, r)
  else sgnF c r
noncomputable def tknR (T u : List Nat) : Except Err (PyData × PyData × List Nat) -> Rs V
 | .error m => .exc (errX T m)
 | .ok (s, v, e) => .ok (.d (.tuple [s, v, .int (pos T u), .int (pos T e)]))
theorem op_len (u : List Nat) : (opF u).length <= u.length := by
 unfold opF
 split
 ·rw [List.length_take]; lia
 split
 ·rw [List.length_take]; lia
 ·exact Nat.zero_le _
theorem op_word {c : Nat} {r : List Nat} (h : wordc c = true) : opF (c :: r) = [] := by
 have k : ∀ s ∈ twos ++ ones, wordc (s.headD 0) = false := by decide
 have h1 : ¬twos.contains ((c :: r).take 2) = true := fun q => nomatch (k _ (List.mem_append_left _ (List.contains_iff_mem.mp q))).symm.trans h
 have h2 : ¬ones.contains ((c :: r).take 1) = true := fun q => nomatch (k _ (List.mem_append_right _ (List.contains_iff_mem.mp q))).symm.trans h
 unfold opF
 rw [if_neg h1, if_neg h2]
section
variable {K d : Nat} {T : List Nat} {cf : Cfn} {σ σ' : Sg}
theorem x_retE {e : Ex} {x : Xc} (h : ev cf σ e = .exc x) : exc cf K (.ret e) σ = .exc x := by
 show (ev cf σ e).bind _ = _
 rw [h]; rfl
theorem pos_drop {u : List Nat} {n : Nat} (h : n <= u.length) : pos T u + n = pos T (u.drop n) := by
 unfold pos; rw [List.length_drop, Int.ofNat_sub h]; lia
theorem f33 {c : Nat} {r : List Nat} (hf : Fit T) (hs : (c :: r) <:+ T) : cfn K (d + 1) 33 [.str (mkS T), .int (pos T (c :: r))] = .ok (.d (.str ⟨(opF (c :: r)).toArray⟩)) := by
 rw [c33]
 have : exc (cfn K d) K cm33 ⟨[some (.str (mkS T)), some (.int (pos T (c :: r))), none], none⟩ = .ok (.ret (.d (.str ⟨(opF (c :: r)).toArray⟩))) := by
  unfold opF
  refine s_set (e_slc (p_sl02 hf hs) rfl rfl (e_add rfl rfl)) ?_
  cases h1 : twos.contains ((c :: r).take 2)
  ·refine s_pass (e_inT twos rfl rfl) h1 ?_
   cases h2 : ones.contains ((c :: r).take 1)
   ·exact s_pass (e_inT ones (e_idx hf hs rfl rfl) rfl) h2 rfl
   ·exact x_take (e_inT ones (e_idx hf hs rfl rfl) rfl) h2 (x_ret (e_idx hf hs rfl rfl))
  ·exact x_take (e_inT twos rfl rfl) h1 rfl
 rw [this]; rfl
theorem f34 {c : Nat} {r : List Nat} (hf : Fit T) (hK : 4001 <= K) (hs : (c :: r) <:+ T) (hg : gd (c :: r) = true) : cfn K (d + 5) 34 [.str (mkS T), .int (pos T (c :: r))] = tknR T (c :: r) (sgnF c r) := by
 rw [c34]
 have hf' : T.length <= 4000 := hf
 have hsl := suf_le hs
 have g33 := f33 (K := K) (d := d + 3) hf hs
 have g28 : ∀ b, cfn K (d + 4) 28 [.str (mkS T), .int (pos T (c :: r)), .int b] = .ok (.d (.bool (figc b c))) := fun b => f28 (d := d + 2) hf hs
 have g28' : cfn K (d + 4) 28 [.str (mkS T), .int (pos T r), .int 10] = .ok (.d (.bool (figH 10 r))) := f28 (d := d + 2) hf (suf_tail hs)
 have g29 := f29 (K := K) (d := d + 1) hf hK hs
 have hol := op_len (c :: r)
 have hon : (opF (c :: r)).length <= 4000 := by lia
 show Rs.bind (exc (cfn K (d + 4)) K cm34 ⟨[some (.str (mkS T)), some (.int (pos T (c :: r))), none, none, none, none], none⟩) outV = _
 have pre : ∀ {b : Cm} {x : Rs Out}, exc (cfn K (d + 4)) K b ⟨[some (.str (mkS T)), some (.int (pos T (c :: r))), some (.str ⟨(opF (c :: r)).toArray⟩), none, none, none], none⟩ = x -> exc (cfn K (d + 4)) K (.seq (.set 2 (.call 33 (.cons (.v 0) (.cons (.v 1) .nil)))) b) ⟨[some (.str (mkS T)), some (.int (pos T (c :: r))), none, none, none, none], none⟩ = x := fun h => s_set (e_call2 rfl rfl g33) h
 have hq1 := e_neS (cf := cfn K (d + 4)) (σ := ⟨[some (.str (mkS T)), some (.int (pos T (c :: r))), some (.str ⟨(opF (c :: r)).toArray⟩), none, none, none], none⟩) (a := .v 2) (b := .str ⟨#[]⟩) (x := opF (c :: r)) (y := []) rfl rfl
 unfold sgnF
 cases h1 : !(opF (c :: r) == [])
 case true =>
  simp only [if_true]
  have : exc (cfn K (d + 4)) K cm34 ⟨[some (.str (mkS T)), some (.int (pos T (c :: r))), none, none, none, none], none⟩ = .ok (.ret (.d (.tuple [opS, .str ⟨(opF (c :: r)).toArray⟩, .int (pos T (c :: r)), .int (pos T ((c :: r).drop (opF (c :: r)).length))]))) :=
   pre (x_take hq1 h1 (x_ret (e_tup4 rfl rfl rfl (e_addZ rfl (e_len (T := opF (c :: r)) hon rfl) (pos_drop hol)))))
  rw [this]; rfl
 simp only [Bool.false_eq_true, if_false]
 have hq2 := e_call3 (cf := cfn K (d + 4)) (σ := ⟨[some (.str (mkS T)), some (.int (pos T (c :: r))), some (.str ⟨(opF (c :: r)).toArray⟩), none, none, none], none⟩) (a := .v 0) (b := .v 1) (c := .int 10) rfl rfl rfl (g28 10)
 cases h2 : figc 10 c
 case true =>
  simp only [if_true]
  have g32 := f32 (K := K) (d := d) hf hK hs hg h2
  cases hx : numF (c :: r) with
  | error m =>
   rw [hx] at g32
   have : exc (cfn K (d + 4)) K cm34 ⟨[some (.str (mkS T)), some (.int (pos T (c :: r))), none, none, none, none], none⟩ = .exc (exprX T m) :=
    pre (s_pass hq1 h1 (x_takeE hq2 h2 (x_retE (e_call2 rfl rfl g32))))
   rw [this]; rfl
  | ok v =>
   rw [hx] at g32
   have : exc (cfn K (d + 4)) K cm34 ⟨[some (.str (mkS T)), some (.int (pos T (c :: r))), none, none, none, none], none⟩ = .ok (.ret (.d (.tuple [v.1, v.2.1, .int (pos T (c :: r)), .int (pos T v.2.2)]))) :=
    pre (s_pass hq1 h1 (x_take hq2 h2 (x_ret (e_call2 rfl rfl g32))))
   rw [this]; rfl
 simp only [Bool.false_eq_true, if_false]
 have pre2 : ∀ {b : Cm} {x : Rs Out}, exc (cfn K (d + 4)) K b ⟨[some (.str (mkS T)), some (.int (pos T (c :: r))), some (.str ⟨(opF (c :: r)).toArray⟩), some (.str ⟨[c].toArray⟩), none, none], none⟩ = x ->
   exc (cfn K (d + 4)) K (.seq (.set 2 (.call 33 (.cons (.v 0) (.cons (.v 1) .nil)))) (.seq (.ite (.cmp .ne (.v 2) (.str ⟨#[]⟩))
 (.ret (.tup (.cons (.str ⟨#[111, 112]⟩) (.cons (.v 2) (.cons (.v 1) (.cons (.bin .add (.v 1) (.bi .len (.v 2))) .nil)))))) .skip)
 (.seq (.ite (.call 28 (.cons (.v 0) (.cons (.v 1) (.cons (.int 10) .nil))))
 (.ret (.call 32 (.cons (.v 0) (.cons (.v 1) .nil)))) .skip)
 (.seq (.set 3 (.idx (.v 0) (.v 1))) b)))) ⟨[some (.str (mkS T)), some (.int (pos T (c :: r))), none, none, none, none], none⟩ = x := fun h => pre (s_pass hq1 h1 (s_pass hq2 h2 (s_set (e_idx hf hs rfl rfl) h)))
 have hq3 : ev (cfn K (d + 4)) ⟨[some (.str (mkS T)), some (.int (pos T (c :: r))), some (.str ⟨(opF (c :: r)).toArray⟩), some (.str ⟨[c].toArray⟩), none, none], none⟩ (.or (.cons (.cmp .eq (.v 3) (.str ⟨#[95]⟩)) (.cons (.call 28 (.cons (.v 0) (.cons (.v 1) (.cons (.int 36) .nil)))) .nil))) = .ok (.d (.bool (wordc c))) := by
  refine (e_or2 (e_eqS (x := [c]) (y := [95]) rfl rfl) fun _ => e_call3 rfl rfl rfl (g28 36)).trans ?_
  rw [<- word_split, <- fig36]
  congr 3
  simp
 cases h3 : wordc c
 case true =>
  simp only [if_true]
  have he := nm_suf false false (c :: r)
  generalize nmF false false (c :: r) = e at g29 he ⊢
  have : exc (cfn K (d + 4)) K cm34 ⟨[some (.str (mkS T)), some (.int (pos T (c :: r))), none, none, none, none], none⟩ = .ok (.ret (.d (.tuple [if isop (dif (c :: r) e) then opS else wrdS, .str ⟨(dif (c :: r) e).toArray⟩, .int (pos T (c :: r)), .int (pos T e)]))) := by
   refine pre2 (x_seqR ((x_iteT hq3 h3).trans (s_set (e_call2 rfl rfl g29) (s_set (e_slc (p_slTo hf hs he) rfl rfl rfl) (x_ret (e_tup4 (x := if isop (dif (c :: r) e) then opS else wrdS) ?_ rfl rfl rfl))))))
   refine (e_ite (v := .d opS) (w := .d wrdS) (e_call1 rfl (f30 (d := d + 3) _)) rfl rfl).trans ?_
   cases isop (dif (c :: r) e) <;> rfl
  rw [this]; rfl
 simp only [Bool.false_eq_true, if_false]
 have hq4 := e_and2 (cf := cfn K (d + 4)) (σ := ⟨[some (.str (mkS T)), some (.int (pos T (c :: r))), some (.str ⟨(opF (c :: r)).toArray⟩), some (.str ⟨[c].toArray⟩), none, none], none⟩) (e_eqS (a := .v 3) (b := .str ⟨#[46]⟩) (x := [c]) (y := [46]) rfl rfl) fun _ => e_call3 (a := .v 0) (b := .bin .add (.v 1) (.int 1)) (c := .int 10) rfl (e_addZ rfl rfl (pos1 ..)) rfl g28'
 have e46 : ([c] == [46]) = (c == 46) := by simp
 rw [e46] at hq4
 cases h4 : c == 46 && figH 10 r
 case true =>
  simp only [if_true]
  have : exc (cfn K (d + 4)) K cm34 ⟨[some (.str (mkS T)), some (.int (pos T (c :: r))), none, none, none, none], none⟩ = .exc (exprX T msgF) :=
   pre2 (s_pass hq3 h3 (x_takeE hq4 h4 (x_raise (e_call3 rfl rfl rfl (f26 (d := d + 2) hf (what := msgF) (by decide) _)))))
  rw [this]; rfl
 simp only [Bool.false_eq_true, if_false]
 have hq5 := e_eqS (cf := cfn K (d + 4)) (σ := ⟨[some (.str (mkS T)), some (.int (pos T (c :: r))), some (.str ⟨(opF (c :: r)).toArray⟩), some (.str ⟨[c].toArray⟩), none, none], none⟩) (a := .v 3) (b := .str ⟨#[61]⟩) (x := [c]) (y := [61]) rfl rfl
 have e61 : ([c] == [61]) = (c == 61) := by simp
 rw [e61] at hq5
 cases h5 : c == 61
 case true =>
  simp only [if_true]
  have : exc (cfn K (d + 4)) K cm34 ⟨[some (.str (mkS T)), some (.int (pos T (c :: r))), none, none, none, none], none⟩ = .exc (exprX T msgE) :=
   pre2 (s_pass hq3 h3 (s_pass hq4 h4 (x_takeE hq5 h5 (x_raise (e_call3 rfl rfl rfl (f26 (d := d + 2) hf (what := msgE) (by decide) _))))))
  rw [this]; rfl
 simp only [Bool.false_eq_true, if_false]
 have : exc (cfn K (d + 4)) K cm34 ⟨[some (.str (mkS T)), some (.int (pos T (c :: r))), none, none, none, none], none⟩ = .exc (exprX T (msgI ++ [c] ++ [34])) :=
  pre2 (s_pass hq3 h3 (s_pass hq4 h4 (s_pass hq5 h5 (x_raise (e_call3 rfl rfl (e_cat (y := [34]) (e_cat (x := msgI) (y := [c]) rfl rfl (by simp [msgI])) rfl (by simp [msgI])) (f26 (d := d + 2) hf (what := msgI ++ [c] ++ [34]) (by simp [msgI]) _))))))
 rw [this]; rfl
end
noncomputable abbrev TV := PyData × PyData × List Nat
theorem tok_step {F c : Nat} {r : List Nat} : tokF F (c :: r) =
  if c == 36 then
   (match dolF F r with
   | .error m => .error (.inl m)
   | .ok (none, _) => .error (.inr msgD)
   | .ok (some p, e) => .ok (partsS, .tuple [varP p.1 p.2], e))
  else if c == 91 then .ok (partsS, .tuple [cmdP (dif r (dropC 93 r))], (dropC 93 r).drop 1)
  else if c == 34 then
   (match fillF F 34 [] [] r with
   | .error m => .error (.inl m)
   | .ok (_, []) => .error (.inl msgQ)
   | .ok (ps, _ :: e) => .ok (partsS, .tuple ps, e))
  else if c == 123 then
   (match brcF F 1 [] r with
   | none => .error (.inl msgC)
   | some (a, e) => .ok (textS, .str ⟨a.toArray⟩, e))
  else if c == 40 || c == 41 || c == 44 then .ok (.str ⟨[c].toArray⟩, .str ⟨[c].toArray⟩, r)
  else sgnF c r := rfl
noncomputable def dolT : DR -> Except Err TV
 | .error m => .error (.inl m)
 | .ok (none, _) => .error (.inr msgD)
 | .ok (some p, e) => .ok (partsS, .tuple [varP p.1 p.2], e)
noncomputable def filT : FR -> Except Err TV
 | .error m => .error (.inl m)
 | .ok (_, []) => .error (.inl msgQ)
 | .ok (ps, _ :: e) => .ok (partsS, .tuple ps, e)
noncomputable def brcT : Option (List Nat × List Nat) -> Except Err TV
 | none => .error (.inl msgC)
 | some (a, e) => .ok (textS, .str ⟨a.toArray⟩, e)
noncomputable def lo (l : List Nat) : Bool := l.all (fun c => decide (c < 128))
theorem lo_app {a b : List Nat} (ha : lo a = true) (hb : lo b = true) : lo (a ++ b) = true := by
 unfold lo at *; rw [List.all_append, ha, hb]; rfl
theorem lo1 {c : Nat} (h : c < 128) : lo [c] = true := by
 unfold lo
 rw [List.all_cons, decide_eq_true h]; rfl
noncomputable def loE : Err -> Bool
 | .inl m => lo m
 | .inr m => lo m
section
variable {C : Prop} {F c : Nat} {r u : List Nat}
theorem num_inv {x : Except (List Nat) TV} (h : numF u = x) (kE : .error msgF = x -> C)
  (k1 : ∀ b v e, baseF u = b -> digF b.1 b.2.1 = v -> nmF false false v = e -> (b.2.2 && floatF v) = false -> (decide (e.length < v.length) && (!(v.take 1 == [58]) && !isop (dif v e))) = true -> .ok (wrdS, .str ⟨(dif u e).toArray⟩, e) = x -> C)
  (k2 : ∀ b v e, baseF u = b -> digF b.1 b.2.1 = v -> nmF false false v = e -> (b.2.2 && floatF v) = false -> (decide (e.length < v.length) && (!(v.take 1 == [58]) && !isop (dif v e))) = false -> .ok (numS, .int (valF b.1 0 (dif b.2.1 v)), v) = x -> C) : C :=
 of_ite h (fun _ h => kE h) fun q h => of_ite h (fun p h => k1 _ _ _ rfl rfl rfl (Bool.eq_false_iff.mpr q) p h) fun p h => k2 _ _ _ rfl rfl rfl (Bool.eq_false_iff.mpr q) (Bool.eq_false_iff.mpr p) h
noncomputable def numK : Except (List Nat) TV -> Except Err TV
 | .error m => .error (.inr m)
 | .ok v => .ok v
theorem sgn_inv {x : Except Err TV} (h : sgnF c r = x) (kE : ∀ m, (c < 128 -> loE m = true) -> .error m = x -> C)
  (k1 : ¬(opF (c :: r) == []) = true -> (∀ r', ¬(opF (c :: r') == []) = true -> sgnF c r' = .ok (opS, .str ⟨(opF (c :: r')).toArray⟩, (c :: r').drop (opF (c :: r')).length)) -> .ok (opS, .str ⟨(opF (c :: r)).toArray⟩, (c :: r).drop (opF (c :: r)).length) = x -> C)
  (k2 : ∀ v, figc 10 c = true -> (∀ r', sgnF c r' = numK (numF (c :: r'))) -> numF (c :: r) = .ok v -> .ok v = x -> C)
  (k3 : figc 10 c = false -> wordc c = true -> (∀ r', sgnF c r' = .ok (if isop (dif (c :: r') (nmF false false (c :: r'))) then opS else wrdS, .str ⟨(dif (c :: r') (nmF false false (c :: r'))).toArray⟩, nmF false false (c :: r'))) ->
   .ok (if isop (dif (c :: r) (nmF false false (c :: r))) then opS else wrdS, .str ⟨(dif (c :: r) (nmF false false (c :: r))).toArray⟩, nmF false false (c :: r)) = x -> C) : C := by
 have nt : ∀ {b : Bool}, ¬b = true -> (!b) = true := fun q => by rw [Bool.eq_false_iff.mpr q]; rfl
 refine of_ite h (fun q h => k1 (fun p => by rw [p] at q; cases q) (fun r' p => if_pos (nt p)) h) fun q1 h => ?_
 have wf : ∀ r', wordc c = true -> ¬(!(opF (c :: r') == [])) = true := fun r' w p => by rw [op_word w] at p; cases p
 refine of_ite h (fun q h => ?_) fun q2 h => ?_
 ·have fw : ∀ r', sgnF c r' = numK (numF (c :: r')) := fun r' => (if_neg (wf r' (fig_word q))).trans (if_pos q)
  have h : numK (numF (c :: r)) = x := h
  cases hn : numF (c :: r) with
  | error m =>
   rw [hn] at h
   exact kE (.inr m) (fun _ => num_inv hn (fun e => by cases e; rfl) (fun _ _ _ _ _ _ _ _ e => nomatch e) fun _ _ _ _ _ _ _ _ e => nomatch e) h
  | ok v => rw [hn] at h; exact k2 v q fw hn h
 refine of_ite h (fun q h => k3 (Bool.eq_false_iff.mpr q2) q (fun r' => ((if_neg (wf r' q)).trans (if_neg q2)).trans (if_pos q)) h) fun _ h => ?_
 exact of_ite h (fun _ h => kE _ (fun _ => rfl) h) fun _ h => of_ite h (fun _ h => kE _ (fun _ => rfl) h) fun _ h => kE (.inr (msgI ++ [c] ++ [34])) (fun hc => lo_app (a := msgI ++ [c]) (lo_app (a := msgI) rfl (lo1 hc)) rfl) h
structure Plain (c : Nat) : Prop where
 q36 : (c == 36) = false
 q91 : (c == 91) = false
 q34 : (c == 34) = false
 q123 : (c == 123) = false
 q5 : (c == 40 || c == 41 || c == 44) = false
theorem tok_plain (h : Plain c) : tokF F (c :: r) = sgnF c r := by
 rw [tok_step, h.q36, h.q91, h.q34, h.q123, h.q5]; rfl
theorem tok_inv {x : Except Err TV} (h : tokF F (c :: r) = x) (e1 : ∀ m, dolF F r = .error m -> .error (.inl m) = x -> C) (e2 : ∀ m, fillF F 34 [] [] r = .error m -> .error (.inl m) = x -> C) (e3 : ∀ m, loE m = true -> .error m = x -> C)
  (k1 : ∀ p e, c = 36 -> dolF F r = .ok (some p, e) -> .ok (partsS, .tuple [varP p.1 p.2], e) = x -> C)
  (k2 : c = 91 -> .ok (partsS, .tuple [cmdP (dif r (dropC 93 r))], (dropC 93 r).drop 1) = x -> C)
  (k3 : ∀ ps a e, c = 34 -> fillF F 34 [] [] r = .ok (ps, a :: e) -> .ok (partsS, .tuple ps, e) = x -> C)
  (k4 : ∀ a e, c = 123 -> brcF F 1 [] r = some (a, e) -> .ok (textS, .str ⟨a.toArray⟩, e) = x -> C)
  (k5 : c = 40 \/ c = 41 \/ c = 44 -> .ok (.str ⟨[c].toArray⟩, .str ⟨[c].toArray⟩, r) = x -> C)
  (k6 : Plain c -> (∀ r', tokF F (c :: r') = sgnF c r') -> sgnF c r = x -> C) : C := by
 refine of_ite h (fun q h => ?_) fun q1 h => ?_
 ·match hd : dolF F r with
  | .error m => rw [hd] at h; exact e1 m hd h
  | .ok (none, e) => rw [hd] at h; exact e3 (.inr msgD) rfl h
  | .ok (some p, e) => rw [hd] at h; exact k1 p e (eq_of_beq q) hd h
 refine of_ite h (fun q h => k2 (eq_of_beq q) h) fun q2 h => ?_
 refine of_ite h (fun q h => ?_) fun q3 h => ?_
 ·match hd : fillF F 34 [] [] r with
  | .error m => rw [hd] at h; exact e2 m hd h
  | .ok (_, []) => rw [hd] at h; exact e3 (.inl msgQ) rfl h
  | .ok (ps, a :: e) => rw [hd] at h; exact k3 ps a e (eq_of_beq q) hd h
 refine of_ite h (fun q h => ?_) fun q4 h => ?_
 ·match hd : brcF F 1 [] r with
  | none => rw [hd] at h; exact e3 (.inl msgC) rfl h
  | some (a, e) => rw [hd] at h; exact k4 a e (eq_of_beq q) hd h
 refine of_ite h (fun q h => k5 ?_ h) fun q5 h => k6 ⟨Bool.eq_false_iff.mpr q1, Bool.eq_false_iff.mpr q2, Bool.eq_false_iff.mpr q3, Bool.eq_false_iff.mpr q4, Bool.eq_false_iff.mpr q5⟩ (fun r' => ((((if_neg q1).trans (if_neg q2)).trans (if_neg q3)).trans (if_neg q4)).trans (if_neg q5)) h
 rw [Bool.or_eq_true, Bool.or_eq_true, beq_iff_eq, beq_iff_eq, beq_iff_eq] at q
 exact or_assoc.mp q
theorem tok_ok {P : TV -> Prop} {x : TV} (h : tokF F (c :: r) = .ok x) (k1 : ∀ p e, c = 36 -> dolF F r = .ok (some p, e) -> P (partsS, .tuple [varP p.1 p.2], e))
  (k2 : c = 91 -> P (partsS, .tuple [cmdP (dif r (dropC 93 r))], (dropC 93 r).drop 1))
  (k3 : ∀ ps a e, c = 34 -> fillF F 34 [] [] r = .ok (ps, a :: e) -> P (partsS, .tuple ps, e))
  (k4 : ∀ a e, c = 123 -> brcF F 1 [] r = some (a, e) -> P (textS, .str ⟨a.toArray⟩, e))
  (k5 : c = 40 \/ c = 41 \/ c = 44 -> P (.str ⟨[c].toArray⟩, .str ⟨[c].toArray⟩, r))
  (k6 : (∀ r', tokF F (c :: r') = sgnF c r') -> sgnF c r = .ok x -> P x) : P x := by
 have K : ∀ {y : TV}, (Except.ok y : Except Err TV) = .ok x -> P y -> P x := fun e h => by cases e; exact h
 exact tok_inv h (fun _ _ h => nomatch h) (fun _ _ h => nomatch h) (fun _ _ h => nomatch h) (fun p e q d h => K h (k1 p e q d)) (fun q h => K h (k2 q)) (fun ps a e q d h => K h (k3 ps a e q d)) (fun a e q d h => K h (k4 a e q d)) (fun q h => K h (k5 q)) fun _ => k6
end
section
variable {K d : Nat} {T : List Nat} {cf : Cfn} {σ σ' : Sg}
section
variable {D N F c : Nat} {r : List Nat} {b : Cm} {R : Rs V} {y : DR} {z : FR} {w : Option (List Nat × List Nat)} {x : Except Err TV}
noncomputable abbrev A35 (T : List Nat) (c : Nat) (r : List Nat) : Sg := ⟨[some (.str (mkS T)), some (.int (pos T (c :: r))), some (.str ⟨[c].toArray⟩), none, none, none, none, none], none⟩
theorem q35 (v : Nat) : ev cf (A35 T c r) (.cmp .eq (.v 2) (.str ⟨[v].toArray⟩)) = .ok (.d (.bool (c == v))) :=
 (e_eqS (x := [c]) (y := [v]) rfl rfl).trans (by rw [show ([c] == [v]) = (c == v && true) from rfl, Bool.and_true])
theorem u36 (hf : Fit T) (g : cfn K (D + 2) 17 [.str (mkS T), .int (pos T (36 :: r))] = dolR T y) : G (cfn K (D + 2)) K (tl cm35) (A35 T 36 r) (tknR T (36 :: r) (dolT y)) :=
 match y with
 | .error m => .of (x_seqE ((x_iteT (q35 36) rfl).trans (x_seqE (x_setTE (e_call2 rfl rfl g))))) rfl
 | .ok (none, e) => .of (x_seqE ((x_iteT (q35 36) rfl).trans (s_setT (e_call2 rfl rfl g) rfl (x_takeE (e_eqS (x := [116, 101, 120, 116]) (y := [116, 101, 120, 116]) (e_fst rfl) rfl) rfl (x_raise (e_call3 rfl rfl rfl (f26 (d := D) hf (what := msgD) (by decide) _))))))) rfl
 | .ok (some p, e) => .of (x_seqR ((x_iteT (q35 36) rfl).trans (s_setT (e_call2 rfl rfl g) rfl (s_pass (e_eqS (x := [118, 97, 114]) (y := [116, 101, 120, 116]) (e_fst rfl) rfl) rfl (x_ret (e_tup4 rfl rfl rfl rfl)))))) rfl
theorem u34 (hf : Fit T) (g : cfn K (D + 1) 20 [.str (mkS T), .int (pos T r), tupS [[34]]] = fillR T z) : G (cfn K (D + 1)) K (tl (tl (tl cm35))) (A35 T 34 r) (tknR T (34 :: r) (filT z)) :=
 match z with
 | .error m => .of (x_seqE ((x_iteT (q35 34) rfl).trans (x_seqE (x_setTE (e_call3 rfl (e_addZ rfl rfl (pos1 ..)) rfl g))))) rfl
 | .ok (ps, []) => .of (x_seqE ((x_iteT (q35 34) rfl).trans (s_setT (e_call3 rfl (e_addZ rfl rfl (pos1 ..)) rfl g) rfl (x_takeE (e_ge rfl (e_len hf rfl)) (ge_nil T) (x_raise (e_call1 rfl (f2 (d := D) msgQ))))))) rfl
 | .ok (ps, x :: e) => .of (x_seqR ((x_iteT (q35 34) rfl).trans (s_setT (e_call3 rfl (e_addZ rfl rfl (pos1 ..)) rfl g) rfl (s_pass (e_ge rfl (e_len hf rfl)) (ge_cons ..) (x_ret (e_tup4 rfl rfl rfl (e_addZ rfl rfl (pos1 ..)))))))) rfl
theorem u123 (g : cf 19 [.str (mkS T), .int (pos T (123 :: r))] = brcR T w) : G cf K (tl (tl (tl (tl cm35)))) (A35 T 123 r) (tknR T (123 :: r) (brcT w)) :=
 match w with
 | none => .of (x_seqE ((x_iteT (q35 123) rfl).trans (x_seqE (x_setTE (e_call2 rfl rfl g))))) rfl
 | some (a, e) => .of (x_seqR ((x_iteT (q35 123) rfl).trans (s_setT (e_call2 rfl rfl g) rfl (x_ret (e_tup4 rfl rfl rfl rfl))))) rfl
theorem u6 (g : cf 34 [.str (mkS T), .int (pos T (c :: r))] = tknR T (c :: r) x) : G cf K (tl (tl (tl (tl (tl (tl cm35)))))) (A35 T c r) (tknR T (c :: r) x) :=
 match x with
 | .error m => .of (x_retE (e_call2 rfl rfl g)) rfl
 | .ok (a, b, e) => .of (x_ret (e_call2 rfl rfl g)) rfl
theorem q35p : ev cf (A35 T c r) (.cmp .in_ (.v 2) (.tup (.cons (.str ⟨#[40]⟩) (.cons (.str ⟨#[41]⟩) (.cons (.str ⟨#[44]⟩) .nil))))) = .ok (.d (.bool (c == 40 || c == 41 || c == 44))) := by
 refine (e_inT [[40], [41], [44]] rfl rfl).trans ?_
 rw [show ([[40], [41], [44]] : List (List Nat)).contains [c] = ((c == 40 && true) || ((c == 41 && true) || ((c == 44 && true) || false))) from rfl, Bool.and_true, Bool.and_true, Bool.and_true, Bool.or_false, Bool.or_assoc]
theorem f35 (hf : Fit T) (hK : 4001 <= K) (hs : (c :: r) <:+ T) (hg : gd (c :: r) = true) (hN : (c :: r).count 36 <= N) (hF : r.length < F) :
  cfn K (d + 2 * N + 8) 35 [.str (mkS T), .int (pos T (c :: r))] = tknR T (c :: r) (tokF F (c :: r)) := by
 have hg1 := gd_tail hg
 rw [c35]
 refine G.seq (σ' := A35 T c r) (b := tl cm35) (x_set (e_idx hf hs rfl rfl)) ?_
 by_cases h1 : (c == 36) = true
 ·obtain rfl := eq_of_beq h1
  have g := all17 (K := K) (d := d + 2) hf hK N F r (by rw [List.count_cons_self] at hN; exact hN) hF hs hg1
  rw [show d + 2 + 2 * N + 5 = d + 2 * N + 7 by lia] at g
  exact u36 (D := d + 2 * N + 5) hf g
 refine G.pass (q35 36) h1 ?_
 by_cases h2 : (c == 91) = true
 ·obtain rfl := eq_of_beq h2
  obtain ⟨r', hd, g⟩ := f18 (d := d + 2 * N + 2) hf hK hs hg
  rw [show tokF F (91 :: r) = .ok (partsS, .tuple [cmdP (dif r (dropC 93 r))], (dropC 93 r).drop 1) from rfl, hd]
  exact .of (x_seqR ((x_iteT (q35 91) rfl).trans (s_setT (e_call2 rfl rfl g) rfl (x_ret (e_tup4 rfl rfl rfl rfl))))) rfl
 refine G.pass (q35 91) h2 ?_
 by_cases h3 : (c == 34) = true
 ·obtain rfl := eq_of_beq h3
  have g := all20 (K := K) (d := d + 1) (N := N) (f := F) (st := 34) (u := r) hf hK (.inr rfl) (suf_tail hs) hg1 hF (Nat.le_trans (cnt_suf (List.suffix_cons _ r)) hN)
  rw [show d + 1 + 2 * N + 6 = d + 2 * N + 7 by lia] at g
  exact u34 (D := d + 2 * N + 6) hf g
 refine G.pass (q35 34) h3 ?_
 by_cases h4 : (c == 123) = true
 ·obtain rfl := eq_of_beq h4
  exact u123 (f19 (d := d + 2 * N + 5) (f := F) hf hK hs hg1 hF)
 refine G.pass (q35 123) h4 ?_
 by_cases h5 : (c == 40 || c == 41 || c == 44) = true
 ·refine .of (x_take q35p h5 (x_ret (e_tup4 rfl rfl rfl (e_addZ rfl rfl (pos1 ..))))) ?_
  rw [tok_step, if_neg h1, if_neg h2, if_neg h3, if_neg h4, if_pos h5]; rfl
 rw [tok_plain ⟨Bool.eq_false_iff.mpr h1, Bool.eq_false_iff.mpr h2, Bool.eq_false_iff.mpr h3, Bool.eq_false_iff.mpr h4, Bool.eq_false_iff.mpr h5⟩]
 exact G.pass q35p h5 (u6 (f34 (K := K) (d := d + 2 * N + 2) hf hK hs hg))
end
theorem lo_gd : ∀ {u : List Nat}, gd u = true -> lo u = true
 | [], _ => rfl
 | c :: r, h => by
  unfold lo
  rw [List.all_cons, decide_eq_true (gd_lt h), Bool.true_and]
  exact lo_gd (gd_tail h)
theorem lo_take {a : List Nat} {n : Nat} (h : lo a = true) : lo (a.take n) = true := by
 unfold lo at *
 rw [List.all_eq_true] at *
 exact fun x hx => h x (List.mem_of_mem_take hx)
theorem lo_str {l : List Nat} (h : lo l = true) : (PyData.str ⟨l.toArray⟩).canLay0 = true := by
 show (Str.cps ⟨l.toArray⟩).all (· < 0x110000) = true
 unfold lo at h
 rw [List.all_eq_true] at h
 simp only [List.all_toArray, List.all_eq_true, decide_eq_true_eq]
 intro x hx
 have := h x hx
 simp only [decide_eq_true_eq] at this
 lia
noncomputable def Lw (n : Nat) (d : PyData) : Prop := d.canLay0 = true /\ d.depth <= n
noncomputable def LwA (n : Nat) (ds : List PyData) : Prop := PyData.canLayAll0 ds = true /\ PyData.depthAll ds <= n
theorem LwA.nil {n : Nat} : LwA n [] := ⟨rfl, Nat.zero_le _⟩
theorem LwA.cons {n : Nat} {x : PyData} {l : List PyData} (h : Lw n x) (g : LwA n l) : LwA n (x :: l) := by
 refine ⟨?_, ?_⟩
 ·unfold PyData.canLayAll0; rw [h.1, g.1]; rfl
 ·unfold PyData.depthAll; exact Nat.max_le.mpr ⟨h.2, g.2⟩
theorem LwA.app {n : Nat} {b : List PyData} (hb : LwA n b) : ∀ {a : List PyData}, LwA n a -> LwA n (a ++ b)
 | [], _ => hb
 | x :: a, h => by
  obtain ⟨h1, h2⟩ := h
  unfold PyData.canLayAll0 at h1
  unfold PyData.depthAll at h2
  rw [Bool.and_eq_true] at h1
  exact LwA.cons ⟨h1.1, Nat.le_trans (Nat.le_max_left _ _) h2⟩ (LwA.app hb ⟨h1.2, Nat.le_trans (Nat.le_max_right _ _) h2⟩)
theorem Lw.tup {n : Nat} {l : List PyData} (h : LwA n l) : Lw (n + 1) (.tuple l) := ⟨h.1, by unfold PyData.depth; exact Nat.succ_le_succ h.2⟩
theorem Lw.list {n : Nat} {l : List PyData} (h : LwA n l) : Lw (n + 1) (.list l) := ⟨h.1, by unfold PyData.depth; exact Nat.succ_le_succ h.2⟩
theorem Lw.str {n : Nat} {l : List Nat} (h : lo l = true) : Lw n (.str ⟨l.toArray⟩) := ⟨lo_str h, Nat.zero_le _⟩
theorem Lw.int {n : Nat} {i : Int} : Lw n (.int i) := ⟨rfl, Nat.zero_le _⟩
theorem Lw.none {n : Nat} : Lw n .none := ⟨rfl, Nat.zero_le _⟩
theorem Lw.mono {n m : Nat} {x : PyData} (h : Lw n x) (k : n <= m) : Lw m x := ⟨h.1, Nat.le_trans h.2 k⟩
theorem LwA.mono {n m : Nat} {x : List PyData} (h : LwA n x) (k : n <= m) : LwA m x := ⟨h.1, Nat.le_trans h.2 k⟩
theorem lw_txt {n : Nat} {l : List Nat} (h : lo l = true) : Lw (n + 1) (txtP l) := Lw.tup (.cons (Lw.str rfl) (.cons (Lw.str h) .nil))
theorem lw_cmd {n : Nat} {l : List Nat} (h : lo l = true) : Lw (n + 1) (cmdP l) := Lw.tup (.cons (Lw.str rfl) (.cons (Lw.str h) .nil))
theorem lw_var {n : Nat} {l : List Nat} {x : PyData} (h : lo l = true) (hx : Lw n x) : Lw (n + 1) (varP l x) := Lw.tup (.cons (Lw.str rfl) (.cons (Lw.str h) (.cons hx .nil)))
theorem lw_flush {n : Nat} {P : List PyData} {R : List Nat} (hP : LwA (n + 1) P) (hR : lo R = true) : LwA (n + 1) (flush P R) := by
 unfold flush
 split
 ·exact hP
 ·exact LwA.app (.cons (lw_txt hR) .nil) hP
theorem cnt2 {u v : List Nat} {n : Nat} (h : u <:+ v) (k : 2 * v.count 36 <= n) : 2 * u.count 36 <= n := Nat.le_trans (Nat.mul_le_mul_left 2 (cnt_suf h)) k
theorem lw_both (f : Nat) : (∀ r p e, gd r = true -> dolF f r = .ok (some p, e) -> lo p.1 = true /\ Lw (2 * r.count 36 + 2) p.2) /\
  (∀ st P R u ps e n, gd u = true -> LwA (n + 1) P -> lo R = true -> 2 * u.count 36 <= n -> fillF f st P R u = .ok (ps, e) -> LwA (n + 1) ps) := by
 induction f with
 | zero => exact ⟨fun _ _ _ _ h => (dol_0 h).elim, fun _ _ _ _ _ _ _ _ _ _ _ h => (fill_0 h).elim⟩
 | succ f H =>
  obtain ⟨H1, H2⟩ := H
  refine ⟨fun r p e hg h => ?_, fun st P R u ps e n hg hP hR hn h => ?_⟩
  ·refine dol_inv h (fun t hr h => brK_inv h (fun h => nomatch h) fun a e' hd h => ?_) (fun e1 _ hn h => paK_inv h (fun _ _ h => nomatch h) (fun h => nomatch h) fun ps a e' hd h => ?_) (fun _ _ _ h => nomatch h) fun _ _ _ h => ?_
   ·cases h
    subst hr
    exact ⟨lo_take (lo_gd (gd_tail hg)), Lw.none⟩
   ·cases h
    have hsf : e1 <:+ r := (List.suffix_cons _ _).trans (hn ▸ nm_suf true false r)
    exact ⟨lo_take (lo_gd hg), Lw.tup (H2 _ _ _ _ _ _ (2 * r.count 36) (gd_suf hsf hg) LwA.nil rfl (cnt2 hsf (Nat.le_refl _)) hd)⟩
   ·cases h
    exact ⟨lo_take (lo_gd hg), Lw.none⟩
  ·have hfl := lw_flush hP hR
   cases u with
   | nil => rw [(fill_nil h).1]; exact hfl
   | cons c r =>
    have hg' := gd_tail hg
    have hn' := cnt2 (List.suffix_cons c r) hn
    have K : ∀ {w P R}, fillF f st P R w = .ok (ps, e) -> w <:+ r -> LwA (n + 1) P -> lo R = true -> LwA (n + 1) ps := fun h s a b => H2 _ _ _ _ _ _ n (gd_suf s hg') a b (cnt2 s hn') h
    refine fill_inv h (fun _ h => by cases h; exact hfl) (fun q _ h => dolK_inv h (fun _ _ h => nomatch h) (fun e' hd h => K h ((sufs f).1 _ _ _ hd) hP (lo_app hR rfl)) fun p e' hd h3 => ?_)
     (fun _ _ h => K h ((drop_suf 1 _).trans (dropL_suf r)) (LwA.app (.cons (lw_cmd (lo_take (lo_gd hg'))) .nil) hfl) rfl) (fun h => nomatch h) (fun r' _ q _ h => K h (q ▸ (row_suf r').trans (List.suffix_cons _ _)) hP (lo_app hR rfl))
     (fun y r' _ q _ h => K h (q ▸ List.suffix_cons y r') hP (lo_app hR (lo1 (gd_lt (q ▸ hg'))))) fun _ h => K h (List.suffix_refl _) hP (lo_app hR (lo1 (gd_lt hg)))
    obtain ⟨k1, k2⟩ := H1 _ _ _ hg' hd
    subst q
    rw [List.count_cons_self] at hn
    exact K h3 ((sufs f).1 _ _ _ hd) (LwA.app (.cons ((lw_var k1 k2).mono (Nat.succ_le_succ hn)) .nil) hfl) rfl
end
noncomputable def signs : List (List Nat) := twos ++ ones
theorem find_same {α : Type} [BEq α] [LawfulBEq α] (v : α) : ∀ l : List α, l.find? (fun s => v == s) = if l.contains v then some v else none
 | [] => rfl
 | x :: l => by
  rw [List.find?_cons, List.contains_cons, find_same v l]
  cases h : v == x
  ·rfl
  ·have : v = x := by simpa using h
   subst this; rfl
theorem find_eq {α : Type} {p q : α -> Bool} : ∀ {l : List α}, (∀ x ∈ l, p x = q x) -> l.find? p = l.find? q
 | [], _ => rfl
 | x :: l, h => by
  rw [List.find?_cons, List.find?_cons, h x List.mem_cons_self, find_eq fun y hy => h y (List.mem_cons_of_mem _ hy)]
theorem take_ne {c : Nat} {r : List Nat} {n : Nat} (h : 0 < n) : (c :: r).take n ≠ [] := by
 cases n with
 | zero => exact absurd h (Nat.lt_irrefl _)
 | succ n => simp
theorem find_signs (c : Nat) (r : List Nat) : signs.find? (fun s => (c :: r).take s.length == s) = if opF (c :: r) == [] then none else some (opF (c :: r)) := by
 unfold signs
 rw [List.find?_append]
 have h2 : twos.find? (fun s => (c :: r).take s.length == s) = if twos.contains ((c :: r).take 2) then some ((c :: r).take 2) else none := by
  rw [<- find_same]
  refine find_eq fun x hx => ?_
  have : ∀ x ∈ twos, x.length = 2 := by decide
  rw [this x hx]
 have h1 : ones.find? (fun s => (c :: r).take s.length == s) = if ones.contains ((c :: r).take 1) then some ((c :: r).take 1) else none := by
  rw [<- find_same]
  refine find_eq fun x hx => ?_
  have : ∀ x ∈ ones, x.length = 1 := by decide
  rw [this x hx]
 rw [h2, h1]
 unfold opF
 cases q2 : twos.contains ((c :: r).take 2)
 ·cases q1 : ones.contains ((c :: r).take 1)
  ·rfl
  ·have : ((c :: r).take 1 == []) = false := by simp
   simp only [Bool.false_eq_true, if_false, if_true, this]; rfl
 ·have : ((c :: r).take 2 == []) = false := by simp
  simp only [if_true, Bool.false_eq_true, if_false, this]; rfl
section
variable {K d : Nat} {T : List Nat} {cf : Cfn} {σ σ' : Sg}
noncomputable abbrev B50 : Cm := .ite (.cmp .eq (.slSS (.v 0) (.v 1) (.bin .add (.v 1) (.bi .len (.v 8)))) (.v 8))
 (.ret (.tup (.cons (.str ⟨#[111, 112]⟩) (.cons (.v 8) (.cons (.v 1) (.cons (.bin .add (.v 1) (.bi .len (.v 8))) .nil)))))) .skip
theorem p_sl0 {u : List Nat} (hf : Fit T) (h : u <:+ T) (b : Nat) (hb : b <= 4000) : sliceD (.str (mkS T)) (some (.int (pos T u))) (some (.int (pos T u + b))) = .ok (.str ⟨(u.take b).toArray⟩) := by
 have := p_sl hf h 0 b hb (by decide)
 rwa [show ((0 : Nat) : Int) = 0 from rfl, Int.add_zero, List.drop_zero] at this
noncomputable def R50 (T u : List Nat) (f : Option PyData -> Sg) : Option (List Nat) -> Rs Out -> Prop
 | some s, o => o = .ok (.ret (.d (.tuple [opS, .str ⟨s.toArray⟩, .int (pos T u), .int (pos T u + s.length)])))
 | none, o => ∃ y, o = .ok (.next (f y))
theorem L50 {u : List Nat} {x2 x3 x4 x5 x6 x7 : Option PyData} (hf : Fit T) (hs : u <:+ T) : ∀ (l : List (List Nat)) (x8 : Option PyData), (∀ x ∈ l, x.length <= 4000) ->
  R50 T u (fun y => ⟨[some (.str (mkS T)), some (.int (pos T u)), x2, x3, x4, x5, x6, x7, y], none⟩) (l.find? (fun s => u.take s.length == s))
   (loopL 8 (exc cf K B50) (l.map fun x => PyData.str ⟨x.toArray⟩) ⟨[some (.str (mkS T)), some (.int (pos T u)), x2, x3, x4, x5, x6, x7, x8], none⟩)
 | [], x8, _ => ⟨x8, rfl⟩
 | s :: l, x8, hl => by
  have hq := e_eqS (cf := cf) (σ := ⟨[some (.str (mkS T)), some (.int (pos T u)), x2, x3, x4, x5, x6, x7, some (.str ⟨s.toArray⟩)], none⟩) (a := .slSS (.v 0) (.v 1) (.bin .add (.v 1) (.bi .len (.v 8)))) (b := .v 8) (y := s) (e_slc (p_sl0 hf hs s.length (hl s List.mem_cons_self)) rfl rfl (e_add rfl (e_len (T := s) (hl s List.mem_cons_self) rfl))) rfl
  have ih := L50 (x2 := x2) (x3 := x3) (x4 := x4) (x5 := x5) (x6 := x6) (x7 := x7) hf hs l (some (.str ⟨s.toArray⟩)) (fun x hx => hl x (List.mem_cons_of_mem _ hx))
  rw [List.find?_cons]
  cases h : u.take s.length == s
  ·have e : loopL 8 (exc cf K B50) ((s :: l).map fun x => PyData.str ⟨x.toArray⟩) ⟨[some (.str (mkS T)), some (.int (pos T u)), x2, x3, x4, x5, x6, x7, x8], none⟩ = loopL 8 (exc cf K B50) (l.map fun x => PyData.str ⟨x.toArray⟩) ⟨[some (.str (mkS T)), some (.int (pos T u)), x2, x3, x4, x5, x6, x7, some (.str ⟨s.toArray⟩)], none⟩ := by
    show (exc cf K B50 ⟨[some (.str (mkS T)), some (.int (pos T u)), x2, x3, x4, x5, x6, x7, some (.str ⟨s.toArray⟩)], none⟩).bind _ = _
    rw [show exc cf K B50 ⟨[some (.str (mkS T)), some (.int (pos T u)), x2, x3, x4, x5, x6, x7, some (.str ⟨s.toArray⟩)], none⟩ = _ from x_iteF hq h]; rfl
   rw [e]; exact ih
  ·show loopL _ _ _ _ = _
   show (exc cf K B50 ⟨[some (.str (mkS T)), some (.int (pos T u)), x2, x3, x4, x5, x6, x7, some (.str ⟨s.toArray⟩)], none⟩).bind _ = _
   have e : exc cf K B50 ⟨[some (.str (mkS T)), some (.int (pos T u)), x2, x3, x4, x5, x6, x7, some (.str ⟨s.toArray⟩)], none⟩ = .ok (.ret (.d (.tuple [opS, .str ⟨s.toArray⟩, .int (pos T u), .int (pos T u + s.length)]))) :=
    (x_iteT hq h).trans (x_ret (e_tup4 rfl rfl rfl (e_add rfl (e_len (T := s) (hl s List.mem_cons_self) rfl))))
   rw [e]; rfl
theorem e_eqT {a b : Ex} {x y : List PyData} (ha : ev cf σ a = .ok (.d (.tuple x))) (hb : ev cf σ b = .ok (.d (.tuple y))) (h1 : Lw 64 (.tuple x)) (h2 : Lw 64 (.tuple y)) : ev cf σ (.cmp .eq a b) = .ok (.d (.bool (PyData.eqv (.tuple x) (.tuple y)))) := by
 show (ev cf σ a).bind _ = _
 rw [ha]
 show (ev cf σ b).bind _ = _
 rw [hb]
 show (if true && true then (if (SeqAt.shaped (.tuple x) && SeqAt.shaped (.tuple y)) = true then Rs.ok (PyData.eqv (.tuple x) (.tuple y)) else .stuck) else .stuck).bind _ = _
 rw [if_pos (show (true && true) = true from rfl)]
 have sh : ∀ {z : PyData}, Lw 64 z -> SeqAt.shaped z = true := fun h => by unfold SeqAt.shaped; rw [h.1, decide_eq_true h.2]; rfl
 rw [if_pos (by rw [sh h1, sh h2]; rfl)]; rfl
theorem dig_alnum (c : Nat) (h : isDigitA c = false) : (isAlphaA c || c == 95) = wordc c := by
 unfold wordc isAlnumA; rw [h, Bool.false_or]
noncomputable abbrev A50 (T : List Nat) (c : Nat) (r : List Nat) (y : Option PyData) : Sg := ⟨[some (.str (mkS T)), some (.int (pos T (c :: r))), some (.str ⟨[c].toArray⟩), none, none, none, none, none, y], none⟩
section
variable {D N F c : Nat} {r : List Nat} {y : Option PyData} {a b : Cm} {R : Rs V} {z : DR} {v : FR} {w : Option (List Nat × List Nat)}
theorem q50 (z : Nat) : ev cf (A50 T c r y) (.cmp .eq (.v 2) (.str ⟨[z].toArray⟩)) = .ok (.d (.bool (c == z))) :=
 (e_eqS (x := [c]) (y := [z]) rfl rfl).trans (by rw [show ([c] == [z]) = (c == z && true) from rfl, Bool.and_true])
theorem q50d (hc : c < 128) : ev cf (A50 T c r y) (.me .isdigit (.v 2) .nil) = .ok (.d (.bool (figc 10 c))) := by
 rw [<- fig_dec c hc]; exact e_dig hc rfl
theorem q50w (hc : c < 128) (h6 : figc 10 c = false) : ev cf (A50 T c r y) (.or (.cons (.me .isalpha (.v 2) .nil) (.cons (.cmp .eq (.v 2) (.str ⟨#[95]⟩)) .nil))) = .ok (.d (.bool (wordc c))) := by
 rw [<- dig_alnum c (by rw [fig_dec c hc]; exact h6)]
 exact e_or2 (e_alpha hc rfl) fun _ => q50 95
theorem q50p : ev cf (A50 T c r y) (.cmp .in_ (.v 2) (.str ⟨#[40, 41, 44]⟩)) = .ok (.d (.bool (c == 40 || c == 41 || c == 44))) :=
 (e_inS (y := [40, 41, 44]) rfl rfl).trans (by rw [show ([40, 41, 44] : List Nat).contains c = (c == 40 || (c == 41 || (c == 44 || false))) from rfl, Bool.or_false, Bool.or_assoc])
theorem t36 (hf : Fit T) (g : cfn K (D + 1) 45 [.str (mkS T), .int (pos T (36 :: r))] = dolR T z) (hz : ∀ p e, z = .ok (some p, e) -> Lw 64 (varP p.1 p.2)) : G (cfn K (D + 1)) K (tl cm50) (A50 T 36 r none) (tknR T (36 :: r) (dolT z)) := by
 have lw : Lw 64 (.tuple [.str ⟨[116, 101, 120, 116].toArray⟩, .str ⟨[36].toArray⟩]) := (lw_txt (n := 0) (l := [36]) rfl).mono (by decide)
 match z with
 | .error m => exact .of (x_seqE ((x_iteT (q50 36) rfl).trans (x_seqE (x_setTE (e_call2 rfl rfl g))))) rfl
 | .ok (none, e) => exact .of (x_seqE ((x_iteT (q50 36) rfl).trans (s_setT (e_call2 rfl rfl g) rfl (x_takeE (e_eqT rfl rfl lw lw) rfl (x_raise (e_call2 rfl rfl (f40 (d := D) hf (what := msgD) (by decide)))))))) rfl
 | .ok (some p, e) => exact .of (x_seqR ((x_iteT (q50 36) rfl).trans (s_setT (e_call2 rfl rfl g) rfl (s_pass (e_eqT rfl rfl (hz p e rfl) lw) rfl (x_ret (e_tup4 rfl rfl rfl rfl)))))) rfl
theorem e_tup1 {cf : Cfn} {σ : Sg} {a : Ex} {x : PyData} (h : ev cf σ a = .ok (.d x)) : ev cf σ (.tup (.cons a .nil)) = .ok (.d (.tuple [x])) := by
 show ((ev _ σ a).bind _).bind _ = _
 rw [h]; rfl
theorem t91 (hf : Fit T) (hK : 4001 <= K) (hs : (91 :: r) <:+ T) (hg : gd (91 :: r) = true) : G (cfn K D) K (tl (tl cm50)) (A50 T 91 r none) (tknR T (91 :: r) (tokF F (91 :: r))) := by
 obtain ⟨r', hd, _⟩ := f18 (d := 0) hf hK hs hg
 have hsf : (93 :: r') <:+ r := by rw [<- hd]; exact dropL_suf r
 have hm := m_index (T := T) (u := 91 :: r) (x := 93) (Nat.le_succ_of_le hf) hs (by show dropC 93 r ≠ []; rw [hd]; exact List.cons_ne_nil _ _)
 rw [show dropC 93 (91 :: r) = 93 :: r' from hd] at hm
 rw [show tokF F (91 :: r) = .ok (partsS, .tuple [cmdP (dif r (dropC 93 r))], (dropC 93 r).drop 1) from rfl, hd]
 exact .of (x_seqR ((x_iteT (q50 91) rfl).trans (s_set (e_me2 rfl rfl rfl hm) (x_ret (e_tup4 rfl (e_tup1 (e_tup2 rfl (e_slc (p_sl1To hf hs hsf) rfl (e_add rfl rfl) rfl))) rfl (e_addZ rfl rfl (pos1 ..))))))) rfl
theorem t34 (hf : Fit T) (g : cf 46 [.str (mkS T), .int (pos T r), .str ⟨[34].toArray⟩] = fillR T v) : G cf K (tl (tl (tl cm50))) (A50 T 34 r none) (tknR T (34 :: r) (filT v)) :=
 match v with
 | .error m => .of (x_seqE ((x_iteT (q50 34) rfl).trans (x_seqE (x_setTE (e_call3 rfl (e_addZ rfl rfl (pos1 ..)) rfl g))))) rfl
 | .ok (ps, []) => .of (x_seqE ((x_iteT (q50 34) rfl).trans (s_setT (e_call3 rfl (e_addZ rfl rfl (pos1 ..)) rfl g) rfl (x_takeE (e_eqI rfl (e_len hf rfl)) (eq_nil T) (x_raise (e_rai2 (t := msgQ) rfl)))))) rfl
 | .ok (ps, x :: e) => .of (x_seqR ((x_iteT (q50 34) rfl).trans (s_setT (e_call3 rfl (e_addZ rfl rfl (pos1 ..)) rfl g) rfl (s_pass (e_eqI rfl (e_len hf rfl)) (eq_cons ..) (x_ret (e_tup4 rfl rfl rfl (e_addZ rfl rfl (pos1 ..)))))))) rfl
theorem t123 (g : cf 47 [.str (mkS T), .int (pos T (123 :: r))] = brcR T w) : G cf K (tl (tl (tl (tl cm50)))) (A50 T 123 r none) (tknR T (123 :: r) (brcT w)) :=
 match w with
 | none => .of (x_seqE ((x_iteT (q50 123) rfl).trans (x_seqE (x_setTE (e_call2 rfl rfl g))))) rfl
 | some (a, e) => .of (x_seqR ((x_iteT (q50 123) rfl).trans (s_setT (e_call2 rfl rfl g) rfl (x_ret (e_tup4 rfl rfl rfl rfl))))) rfl
theorem t6 (hf : Fit T) (hK : 4001 <= K) (hs : (c :: r) <:+ T) (hg : gd (c :: r) = true) (h6 : figc 10 c = true) : G (cfn K (D + 2)) K (tl (tl (tl (tl (tl (tl cm50)))))) (A50 T c r none) (tknR T (c :: r) (numK (numF (c :: r)))) := by
 have g := f48 (K := K) (d := D) hf hK hs hg h6
 cases hx : numF (c :: r) with
 | error m =>
  rw [hx] at g
  exact .of (x_takeE (q50d (gd_lt hg)) h6 (x_retE (e_call2 rfl rfl g))) rfl
 | ok v =>
  rw [hx] at g
  exact .of (x_take (q50d (gd_lt hg)) h6 (x_ret (e_call2 rfl rfl g))) rfl
theorem t7 (hf : Fit T) (hK : 4001 <= K) (hs : (c :: r) <:+ T) (hg : gd (c :: r) = true) (h6 : figc 10 c = false) (h7 : wordc c = true) : G (cfn K (D + 1)) K (tl (tl (tl (tl (tl (tl (tl cm50))))))) (A50 T c r none)
  (tknR T (c :: r) (.ok (if isop (dif (c :: r) (nmF false false (c :: r))) then opS else wrdS, .str ⟨(dif (c :: r) (nmF false false (c :: r))).toArray⟩, nmF false false (c :: r)))) := by
 have g42 := f42 (K := K) (d := D) (n := false) hf hK hs hg
 have he := nm_suf false false (c :: r)
 generalize nmF false false (c :: r) = e at g42 he ⊢
 refine .of (x := .ok (.ret (.d (.tuple [if isop (dif (c :: r) e) then opS else wrdS, .str ⟨(dif (c :: r) e).toArray⟩, .int (pos T (c :: r)), .int (pos T e)])))) (x_seqR ((x_iteT (q50w (gd_lt hg) h6) h7).trans (s_set (e_call3 rfl rfl rfl g42) (s_set (e_slc (p_slTo hf hs he) rfl rfl rfl) (x_ret (e_tup4 (x := if isop (dif (c :: r) e) then opS else wrdS) ?_ rfl rfl rfl)))))) rfl
 refine (e_ite (v := .d opS) (w := .d wrdS) (e_call1 rfl (f49 (d := D) _)) rfl rfl).trans ?_
 cases isop (dif (c :: r) e) <;> rfl
theorem for50 {l : Ex} {o : Rs Out} {xs : List PyData} (hl : ev (cfn K D) (A50 T c r y) l = .ok (.d (.tuple xs))) (hi : itemsD (.tuple xs) = .ok xs) (h : loopL 8 (exc (cfn K D) K B50) xs (A50 T c r y) = o) (k : (o.bind fun o => match o with | .next σ' => exc (cfn K D) K b σ' | o => .ok o).bind outV = R) : G (cfn K D) K (.seq (.forE 8 l B50) b) (A50 T c r y) R := by
 rw [<- k, <- h]
 show Rs.bind (Rs.bind ((ev (cfn K D) (A50 T c r y) l).bind _) _) _ = _
 rw [hl]
 show Rs.bind (Rs.bind ((itemsD (.tuple xs)).bind _) _) _ = _
 rw [hi]; rfl
theorem t9 (hf : Fit T) (hs : (c :: r) <:+ T) (hg1 : gd r = true) : G (cfn K (D + 1)) K (tl (tl (tl (tl (tl (tl (tl (tl (tl cm50))))))))) (A50 T c r y)
  (tknR T (c :: r) (if c == 46 && figH 10 r then .error (.inr msgF) else if c == 61 then .error (.inr msgE) else .error (.inr (msgI ++ [c] ++ [34])))) := by
 have hq9 := e_and2 (cf := cfn K (D + 1)) (σ := A50 T c r y) (q50 46) fun _ => e_digH (v := r) (a := .slSS (.v 0) (.bin .add (.v 1) (.int 1)) (.bin .add (.v 1) (.int 2))) hg1 (e_slc (p_sl12 hf hs) rfl (e_add rfl rfl) (e_add rfl rfl))
 by_cases h9 : (c == 46 && figH 10 r) = true
 ·rw [if_pos h9]
  exact .of (x_takeE hq9 h9 (x_raise (e_call2 rfl rfl (f40 (d := D) hf (what := msgF) (by decide))))) rfl
 rw [if_neg h9]
 refine G.pass hq9 h9 ?_
 have cat : ev (cfn K (D + 1)) (A50 T c r y) (.bin .add (.bin .add (.str ⟨#[105, 110, 118, 97, 108, 105, 100, 32, 99, 104, 97, 114, 97, 99, 116, 101, 114, 32, 34]⟩) (.v 2)) (.str ⟨#[34]⟩)) = .ok (.d (.str ⟨(msgI ++ [c] ++ [34]).toArray⟩)) := e_cat (y := [34]) (e_cat (x := msgI) (y := [c]) rfl rfl (Nat.le_of_ble_eq_true rfl)) rfl (Nat.le_of_ble_eq_true rfl)
 have hms := e_ite (a := .str ⟨msgE.toArray⟩) (v := .d (.str ⟨msgE.toArray⟩)) (cf := cfn K (D + 1)) (σ := A50 T c r y) (q50 61) rfl cat
 by_cases h10 : (c == 61) = true
 ·rw [if_pos h10]
  rw [h10] at hms
  exact .of (x_raise (e_call2 rfl hms (f40 (d := D) hf (what := msgE) (by decide)))) rfl
 rw [if_neg h10]
 rw [Bool.eq_false_iff.mpr h10] at hms
 exact .of (x_raise (e_call2 rfl hms (f40 (d := D) hf (what := msgI ++ [c] ++ [34]) (Nat.le_of_ble_eq_true rfl)))) rfl
theorem ev50 : ∀ {cf : Cfn} {σ : Sg}, ev cf σ (.tup (.cons (.str ⟨#[42, 42]⟩) (.cons (.str ⟨#[60, 60]⟩) (.cons (.str ⟨#[62, 62]⟩) (.cons (.str ⟨#[60, 61]⟩) (.cons (.str ⟨#[62, 61]⟩) (.cons (.str ⟨#[61, 61]⟩) (.cons (.str ⟨#[33, 61]⟩) (.cons (.str ⟨#[38, 38]⟩) (.cons (.str ⟨#[124, 124]⟩) (.cons (.str ⟨#[43]⟩) (.cons (.str ⟨#[45]⟩) (.cons (.str ⟨#[42]⟩) (.cons (.str ⟨#[47]⟩) (.cons (.str ⟨#[37]⟩) (.cons (.str ⟨#[126]⟩) (.cons (.str ⟨#[33]⟩) (.cons (.str ⟨#[60]⟩) (.cons (.str ⟨#[62]⟩) (.cons (.str ⟨#[38]⟩) (.cons (.str ⟨#[94]⟩) (.cons (.str ⟨#[124]⟩) (.cons (.str ⟨#[63]⟩) (.cons (.str ⟨#[58]⟩) .nil)))))))))))))))))))))))) = .ok (.d (.tuple (signs.map fun x => PyData.str ⟨x.toArray⟩))) := rfl
theorem t8 (hf : Fit T) (hs : (c :: r) <:+ T) (hg : gd (c :: r) = true) (h6 : figc 10 c = false) (h7 : wordc c = false) : G (cfn K (D + 1)) K (tl (tl (tl (tl (tl (tl (tl (tl cm50)))))))) (A50 T c r none)
  (tknR T (c :: r) (sgnF c r)) := by
 have hL := L50 (K := K) (cf := cfn K (D + 1)) (x2 := some (.str ⟨[c].toArray⟩)) (x3 := none) (x4 := none) (x5 := none) (x6 := none) (x7 := none) hf hs signs none (by decide)
 rw [find_signs] at hL
 unfold sgnF
 by_cases h8 : (opF (c :: r) == []) = true
 ·rw [if_pos h8] at hL
  obtain ⟨y8, hL⟩ := hL
  refine for50 ev50 rfl hL ?_
  rw [h8, if_neg (by decide), if_neg (by rw [h6]; decide), if_neg (by rw [h7]; decide)]
  exact t9 hf hs (gd_tail hg)
 ·rw [if_neg h8] at hL
  refine for50 ev50 rfl hL ?_
  rw [Bool.eq_false_iff.mpr h8, if_pos (show (!false) = true from rfl)]
  show Rs.ok _ = _
  rw [pos_drop (op_len (c :: r))]; rfl
theorem sgn_fig (h : figc 10 c = true) : sgnF c r = numK (numF (c :: r)) := by
 unfold sgnF
 rw [op_word (fig_word h), h]; rfl
theorem sgn_word (h6 : figc 10 c = false) (h : wordc c = true) : sgnF c r = .ok (if isop (dif (c :: r) (nmF false false (c :: r))) then opS else wrdS, .str ⟨(dif (c :: r) (nmF false false (c :: r))).toArray⟩, nmF false false (c :: r)) := by
 unfold sgnF
 rw [op_word h, h6, h]; rfl
theorem f50 (hf : Fit T) (hK : 4001 <= K) (hs : (c :: r) <:+ T) (hg : gd (c :: r) = true) (hN : (c :: r).count 36 <= N) (hF : r.length < F) (hN30 : N <= 28) :
  cfn K (d + 2 * N + 4) 50 [.str (mkS T), .int (pos T (c :: r))] = tknR T (c :: r) (tokF F (c :: r)) := by
 rw [c50]
 show Rs.bind (exc (cfn K (d + 2 * N + 3)) K (.seq (.set 2 (.idx (.v 0) (.v 1))) (tl cm50)) ⟨[some (.str (mkS T)), some (.int (pos T (c :: r))), none, none, none, none, none, none, none], none⟩) outV = _
 rw [x_seq (x_set (e_idx hf hs rfl rfl))]
 show G (cfn K (d + 2 * N + 3)) K (tl cm50) (A50 T c r none) _
 have hg1 := gd_tail hg
 by_cases h1 : (c == 36) = true
 ·obtain rfl := eq_of_beq h1
  have hN := List.count_cons_self (l := r) ▸ hN
  have g := all45 (K := K) (d := d + 2) hf hK N F r hN hF hs hg1
  rw [show d + 2 + 2 * N + 1 = d + 2 * N + 3 by lia] at g
  refine t36 (D := d + 2 * N + 2) hf g fun p e hd => ?_
  obtain ⟨k1, k2⟩ := (lw_both F).1 _ _ _ hg1 hd
  exact (lw_var k1 k2).mono (by lia)
 refine G.pass (q50 36) h1 ?_
 by_cases h2 : (c == 91) = true
 ·obtain rfl := eq_of_beq h2
  exact t91 hf hK hs hg
 refine G.pass (q50 91) h2 ?_
 by_cases h3 : (c == 34) = true
 ·obtain rfl := eq_of_beq h3
  have g := all46 (K := K) (d := d + 1) (N := N) (f := F) (st := 34) (u := r) hf hK (suf_tail hs) hg1 hF (Nat.le_trans (cnt_suf (List.suffix_cons _ r)) hN)
  rw [show d + 1 + 2 * N + 2 = d + 2 * N + 3 by lia] at g
  exact t34 hf g
 refine G.pass (q50 34) h3 ?_
 by_cases h4 : (c == 123) = true
 ·obtain rfl := eq_of_beq h4
  exact t123 (f47 (d := d + 2 * N + 1) hf hK hs hg1 hF)
 refine G.pass (q50 123) h4 ?_
 by_cases h5 : (c == 40 || c == 41 || c == 44) = true
 ·refine .of (x_take q50p h5 (x_ret (e_tup4 rfl rfl rfl (e_addZ rfl rfl (pos1 ..))))) ?_
  rw [tok_step, if_neg h1, if_neg h2, if_neg h3, if_neg h4, if_pos h5]; rfl
 rw [tok_plain ⟨Bool.eq_false_iff.mpr h1, Bool.eq_false_iff.mpr h2, Bool.eq_false_iff.mpr h3, Bool.eq_false_iff.mpr h4, Bool.eq_false_iff.mpr h5⟩]
 refine G.pass q50p h5 ?_
 by_cases h6 : figc 10 c = true
 ·rw [sgn_fig h6]; exact t6 hf hK hs hg h6
 refine G.pass (q50d (gd_lt hg)) h6 ?_
 have h6 := Bool.eq_false_iff.mpr h6
 by_cases h7 : wordc c = true
 ·rw [sgn_word h6 h7]; exact t7 hf hK hs hg h6 h7
 exact G.pass (q50w (gd_lt hg) h6) h7 (t8 hf hs hg h6 (Bool.eq_false_iff.mpr h7))
end
end
noncomputable abbrev Tk := PyData × PyData × List Nat × List Nat
noncomputable def tokD (T : List Nat) (t : Tk) : PyData := .tuple [t.1, t.2.1, .int (pos T t.2.2.1), .int (pos T t.2.2.2)]
noncomputable def endD (T : List Nat) : PyData := .tuple [.str ⟨[101, 110, 100].toArray⟩, .str ⟨([] : List Nat).toArray⟩, .int (pos T []), .int (pos T [])]
noncomputable def lexF (F : Nat) : Nat -> List Nat -> Except Err (List Tk)
 | 0, _ => .error (.inl [])
 | _ + 1, [] => .ok []
 | n + 1, c :: r => (match tokF F (c :: r) with
  | .error m => .error m
  | .ok v => (match lexF F n (skipF false v.2.2) with
   | .error m => .error m
   | .ok ts => .ok ((v.1, v.2.1, c :: r, v.2.2) :: ts)))
theorem lex_step {F n c : Nat} {r : List Nat} : lexF F (n + 1) (c :: r) = (match tokF F (c :: r) with
  | .error m => .error m
  | .ok v => (match lexF F n (skipF false v.2.2) with
   | .error m => .error m
   | .ok ts => .ok ((v.1, v.2.1, c :: r, v.2.2) :: ts))) := rfl
theorem row_loc : ∀ {u : List Nat} {c : Nat} {t : List Nat}, rowF u = c :: t -> ∃ x, u = x ++ c :: t /\ ∀ t', rowF (x ++ c :: t') = c :: t'
 | [], _, _, h => (by cases h)
 | d :: r, c, t, h => by
  rw [rowF_eq] at h
  cases q : d == 32 || d == 9
  ·rw [q] at h
   injection h with h1 h2
   subst h1 h2
   refine ⟨[], rfl, fun t' => ?_⟩
   show rowF (d :: t') = d :: t'
   rw [rowF_eq]
   rw [q]; rfl
  ·rw [q] at h
   obtain ⟨x, rfl, h2⟩ := row_loc h
   refine ⟨d :: x, rfl, fun t' => ?_⟩
   rw [List.cons_append]
   rw [rowF_eq]
   rw [q]
   exact h2 t'
theorem row_mid {u x : List Nat} {y : Nat} {e : List Nat} (h : rowF u = x ++ y :: e) : ∃ z, u = z ++ (x ++ y :: e) /\ ∀ e', rowF (z ++ (x ++ y :: e')) = x ++ y :: e' := by
 cases x with
 | nil =>
  obtain ⟨z, h1, h2⟩ := row_loc h
  exact ⟨z, h1, h2⟩
 | cons c x =>
  obtain ⟨z, h1, h2⟩ := row_loc h
  exact ⟨z, h1, fun e' => h2 _⟩
noncomputable abbrev BR := Option (List Nat × List Nat)
theorem brc_inv {C : Prop} {f D : Nat} {acc : List Nat} {c : Nat} {r : List Nat} {x : BR} (h : brcF (f + 1) D acc (c :: r) = x)
  (k1 : ∀ D' a, (c < 128 -> lo a = true) -> (∀ r', brcF (f + 1) D acc (c :: r') = brcF f D' (acc ++ a) r') -> brcF f D' (acc ++ a) r = x -> C)
  (k2 : c = 125 -> (∀ r', brcF (f + 1) D acc (c :: r') = some (acc, r')) -> some (acc, r) = x -> C)
  (k4 : none = x -> C)
  (k5 : ∀ r', r = 10 :: r' -> (∀ r', brcF (f + 1) D acc (c :: 10 :: r') = brcF f D (acc ++ [32]) (rowF r')) -> brcF f D (acc ++ [32]) (rowF r') = x -> C)
  (k6 : ∀ y r', r = y :: r' -> (∀ r', brcF (f + 1) D acc (c :: y :: r') = brcF f D (acc ++ [92, y]) r') -> brcF f D (acc ++ [92, y]) r' = x -> C) : C := by
 refine of_ite (brc_step.symm.trans h) (fun q h => k1 _ _ (fun _ => rfl) (fun r' => brc_step.trans (if_pos q)) h) fun q1 h => ?_
 have S1 := fun r' => (brc_step (f := f) (D := D) (acc := acc) (c := c) (r := r')).trans (if_neg q1)
 refine of_ite h (fun q h => ?_) fun q2 h => ?_
 ·have S2 := fun r' => (S1 r').trans (if_pos q)
  exact of_ite h (fun p h => k2 (eq_of_beq q) (fun r' => (S2 r').trans (if_pos p)) h) fun p h => k1 _ _ (fun _ => rfl) (fun r' => (S2 r').trans (if_neg p)) h
 have S2 := fun r' => (S1 r').trans (if_neg q2)
 refine of_ite h (fun q h => ?_) fun q h => k1 _ _ (fun h => lo1 h) (fun r' => (S2 r').trans (if_neg q)) h
 have S4 := fun r' => (S2 r').trans (if_pos q)
 cases r with
 | nil => exact k4 h
 | cons y r' => exact of_ite h (fun q5 h => k5 r' (by rw [eq_of_beq q5]) (fun t => S4 (10 :: t)) h) fun q5 h => k6 y r' rfl (fun t => (S4 (y :: t)).trans (if_neg q5)) h
theorem brc_loc (f : Nat) : ∀ (D : Nat) (acc u : List Nat) {a e : List Nat}, brcF f D acc u = some (a, e) -> ∃ x, u = x ++ 125 :: e /\ ∀ e', brcF f D acc (x ++ 125 :: e') = some (a, e') := by
 induction f with
 | zero => exact fun _ _ _ _ _ h => nomatch (show (none : BR) = some _ from h)
 | succ f H =>
  intro D acc u a e h
  cases u with
  | nil => exact nomatch (show (none : BR) = some _ from h)
  | cons c r =>
   refine brc_inv h (fun D' b _ fw h => ?_) (fun q fw h => ?_) (fun h => nomatch h) (fun r' q fw h => ?_) fun y r' q fw h => ?_
   ·obtain ⟨x, rfl, hx⟩ := H _ _ _ h
    exact ⟨c :: x, rfl, fun e' => (fw _).trans (hx e')⟩
   ·cases h
    subst q
    exact ⟨[], rfl, fw⟩
   ·obtain ⟨x, h1, hx⟩ := H _ _ _ h
    obtain ⟨z, rfl, hz⟩ := row_mid h1
    subst q
    refine ⟨c :: 10 :: (z ++ x), congrArg (c :: 10 :: ·) (List.append_assoc ..).symm, fun e' => ?_⟩
    have := fw (z ++ (x ++ 125 :: e'))
    rw [hz, hx] at this
    rw [<- this, List.cons_append, List.cons_append, List.append_assoc]
   ·obtain ⟨x, rfl, hx⟩ := H _ _ _ h
    subst q
    exact ⟨c :: y :: x, rfl, fun e' => (fw _).trans (hx e')⟩
theorem brc_suf (f D : Nat) (acc u : List Nat) {a e : List Nat} (h : brcF f D acc u = some (a, e)) : e <:+ u := by
 obtain ⟨x, rfl, _⟩ := brc_loc f D acc u h
 exact (List.suffix_cons _ _).trans (List.suffix_append _ _)
theorem nm_tail {c : Nat} {r : List Nat} (h : wordc c = true) : nmF false false (c :: r) <:+ r := by rw [nm_word h]; exact nm_suf _ _ _
theorem num_suf {c : Nat} {r : List Nat} {s v : PyData} {e : List Nat} (hg : gd (c :: r) = true) (hc : figc 10 c = true) (h : numF (c :: r) = .ok (s, v, e)) : e <:+ r := by
 have hb := base_ok hg hc
 have hr := nm_tail (r := r) (fig_word hc)
 rw [hb.run, nm_dig (b := (baseF (c :: r)).1)] at hr
 refine num_inv h (fun h => nomatch h) (fun b v e q1 q2 q3 _ _ h => ?_) fun b v e q1 q2 q3 _ _ h => ?_
 ·cases h
  subst q1 q2 q3
  exact hr
 ·cases h
  subst q1 q2
  have h1 := dig_suf (b := (baseF (c :: r)).1) (baseF (c :: r)).2.1
  rcases List.suffix_cons_iff.mp (h1.trans hb.suf) with q | q
  ·have hq : digF (baseF (c :: r)).1 (baseF (c :: r)).2.1 = (baseF (c :: r)).2.1 := h1.eq_of_length (Nat.le_antisymm h1.length_le (by rw [q]; exact hb.suf.length_le))
   exact absurd (by rw [hq]; exact dif_self _) (dig_ne hb.fig)
  ·exact q
theorem tok_suf {F c : Nat} {r : List Nat} {s v : PyData} {e : List Nat} (hg : gd (c :: r) = true) (h : tokF F (c :: r) = .ok (s, v, e)) : e <:+ r := by
 refine tok_ok (P := fun x => x.2.2 <:+ r) h (fun p e _ hd => (sufs F).1 _ _ _ hd) (fun _ => (drop_suf 1 _).trans (dropL_suf r)) (fun ps a e _ hd => (List.suffix_cons a e).trans ((sufs F).2 _ _ _ _ _ _ hd)) (fun a e _ hd => brc_suf _ _ _ _ hd)
  (fun _ => List.suffix_refl _) fun _ h => sgn_inv h (fun _ _ h => nomatch h) (fun h1 _ h => ?_) (fun v q _ hn h => ?_) fun _ q _ h => ?_
 ·cases h
  cases ho : opF (c :: r) with
  | nil => rw [ho] at h1; exact absurd rfl h1
  | cons a t => exact drop_suf t.length r
 ·cases h; exact num_suf hg q hn
 ·cases h; exact nm_tail q
section
variable {K d : Nat} {T : List Nat} {cf : Cfn} {σ σ' : Sg}
noncomputable abbrev BX (i j : Nat) : Cm := .seq (.set 3 (.call i (.cons (.v 0) (.cons (.v 2) .nil))))
 (.seq (.push (.v 3))
 (.set 2 (.call j (.cons (.v 0) (.cons (.idx (.v 3) (.int 3)) .nil)))))
noncomputable abbrev CX : Ex := .cmp .lt (.v 2) (.bi .len (.v 0))
noncomputable def LoopX (T : List Nat) (cf : Cfn) (K k i j : Nat) (P : List PyData) (σ : Sg) : Except Err (List Tk) -> Prop
 | .error m => loopW (fun σ => (ev cf σ CX).bind boolOf) (exc cf K (BX i j)) k σ = .exc (errX T m)
 | .ok ts => ∃ y3, loopW (fun σ => (ev cf σ CX).bind boolOf) (exc cf K (BX i j)) k σ = .ok (.next ⟨[some (.str (mkS T)), none, some (.int (pos T [])), y3], some (P ++ ts.map (tokD T))⟩)
theorem LX {N F i j : Nat} (hf : Fit T) (hi : ∀ c r, (c :: r) <:+ T -> gd (c :: r) = true -> (c :: r).count 36 <= N -> r.length < F -> cf i [.str (mkS T), .int (pos T (c :: r))] = tknR T (c :: r) (tokF F (c :: r)))
  (hj : ∀ u, u <:+ T -> gd u = true -> cf j [.str (mkS T), .int (pos T u)] = .ok (.d (.int (pos T (skipF false u))))) :
  ∀ (k n : Nat) (u : List Nat) (P : List PyData) (x3 : Option PyData), u <:+ T -> gd u = true -> u.count 36 <= N -> u.length < F -> u.length < k -> u.length < n -> P.length + u.length <= 9000 ->
   LoopX T cf K k i j P ⟨[some (.str (mkS T)), none, some (.int (pos T u)), x3], some P⟩ (lexF F n u)
 | 0, _, _, _, _, _, _, _, _, h, _, _ => absurd h (Nat.not_lt_zero _)
 | _, 0, _, _, _, _, _, _, _, _, h, _ => absurd h (Nat.not_lt_zero _)
 | k + 1, n + 1, [], P, x3, hs, hg, hN, hF, hk, hn, hP => by
  refine ⟨x3, ?_⟩
  rw [List.map_nil, List.append_nil]
  exact w_stop (e_lt rfl (e_len hf rfl)) (lt_nil T)
 | k + 1, n + 1, c :: r, P, x3, hs, hg, hN, hF, hk, hn, hP => by
  rw [List.length_cons] at hF hk hn hP
  have g := hi c r hs hg hN (by lia)
  rw [lex_step]
  cases hx : tokF F (c :: r) with
  | error m =>
   rw [hx] at g
   exact w_exc (e_lt rfl (e_len hf rfl)) (lt_cons ..) (x_seqE (x_setE (e_call2 rfl rfl g)))
  | ok v =>
   obtain ⟨s, v, e⟩ := v
   rw [hx] at g
   have he := tok_suf hg hx
   have hes := he.trans (suf_tail hs)
   have g2 := hj e hes (gd_suf he (gd_tail hg))
   have hsk := skip_suf false e
   have hl1 := he.length_le
   have hl2 := hsk.length_le
   have hb : loopW (fun σ => (ev cf σ CX).bind boolOf) (exc cf K (BX i j)) (k + 1) ⟨[some (.str (mkS T)), none, some (.int (pos T (c :: r))), x3], some P⟩ = loopW (fun σ => (ev cf σ CX).bind boolOf) (exc cf K (BX i j)) k ⟨[some (.str (mkS T)), none, some (.int (pos T (skipF false e))), some (tokD T (s, v, c :: r, e))], some (P ++ [tokD T (s, v, c :: r, e)])⟩ :=
    w_next (e_lt rfl (e_len hf rfl)) (lt_cons ..) (s_set (e_call2 rfl rfl g) (s_seq (x_push rfl rfl (by lia)) (x_set (e_call2 rfl rfl g2))))
   have ih := LX hf hi hj k n (skipF false e) (P ++ [tokD T (s, v, c :: r, e)]) (some (tokD T (s, v, c :: r, e))) (hsk.trans hes) (gd_suf (hsk.trans he) (gd_tail hg)) (Nat.le_trans (cnt_suf ((hsk.trans he).trans (List.suffix_cons c r))) hN) (by lia) (by lia) (by lia) (by rw [List.length_append]; show _ + 1 + _ <= _; lia)
   show LoopX T cf K (k + 1) i j P _ (match lexF F n (skipF false e) with | .error m => .error m | .ok ts => .ok ((s, v, c :: r, e) :: ts))
   cases hl : lexF F n (skipF false e) with
   | error m => rw [hl] at ih; exact hb.trans ih
   | ok ts =>
    rw [hl] at ih
    obtain ⟨y3, ih⟩ := ih
    refine ⟨y3, hb.trans (ih.trans ?_)⟩
    rw [List.append_assoc]; rfl
noncomputable def lexR (T : List Nat) : Except Err (List Tk) -> Rs V
 | .error m => .exc (errX T m)
 | .ok ts => .ok (.d (.list (ts.map (tokD T) ++ [endD T])))
theorem lex_len {F : Nat} : ∀ (n : Nat) (u : List Nat) (ts : List Tk), gd u = true -> lexF F n u = .ok ts -> ts.length <= u.length
 | 0, _, _, _, h => (by cases h)
 | n + 1, [], ts, _, h => (by cases h; exact Nat.le_refl _)
 | n + 1, c :: r, ts, hg, h => by
  rw [lex_step] at h
  cases hx : tokF F (c :: r) with
  | error m => rw [hx] at h; cases h
  | ok v =>
   obtain ⟨s, v, e⟩ := v
   rw [hx] at h
   have he := tok_suf hg hx
   have hsk := skip_suf false e
   dsimp only at h
   cases hl : lexF F n (skipF false e) with
   | error m => rw [hl] at h; cases h
   | ok ts' =>
    rw [hl] at h
    cases h
    have := lex_len n _ ts' (gd_suf (hsk.trans he) (gd_tail hg)) hl
    have h1 := he.length_le
    have h2 := hsk.length_le
    rw [List.length_cons, List.length_cons]; lia
theorem f36 {N F n : Nat} (hf : Fit T) (hK : 4001 <= K) (hg : gd T = true) (hN : T.count 36 <= N) (hF : T.length < F) (hn : T.length < n) : cfn K (d + 2 * N + 9) 36 [.str (mkS T)] = lexR T (lexF F n (skipF false T)) := by
 rw [c36]
 have hf' : T.length <= 4000 := hf
 have hsk := skip_suf false T
 have hl := hsk.length_le
 have hL := LX (K := K) (N := N) (F := F) (i := 35) (j := 27) (cf := cfn K (d + 2 * N + 8)) hf (fun c r h1 h2 h3 h4 => f35 hf hK h1 h2 h3 h4) (fun u h1 h2 => f27 (d := d + 2 * N + 6) hf hK h1 h2) K n (skipF false T) [] none hsk (gd_suf hsk hg) (Nat.le_trans (cnt_suf hsk) hN) (by lia) (by lia) (by lia) (by show 0 + _ <= _; lia)
 have g := f27 (K := K) (d := d + 2 * N + 6) hf hK (List.suffix_refl T) hg
 rw [pos_self] at g
 show Rs.bind (exc (cfn K (d + 2 * N + 8)) K cm36 ⟨[some (.str (mkS T)), none, none, none], none⟩) outV = _
 have pre : ∀ {b : Cm} {x : Rs Out}, exc (cfn K (d + 2 * N + 8)) K b ⟨[some (.str (mkS T)), none, some (.int (pos T (skipF false T))), none], some []⟩ = x -> exc (cfn K (d + 2 * N + 8)) K (.seq .mkOwn (.seq (.set 2 (.call 27 (.cons (.v 0) (.cons (.int 0) .nil)))) b)) ⟨[some (.str (mkS T)), none, none, none], none⟩ = x := fun h => s_seq rfl (s_set (e_call2 rfl rfl g) h)
 have fin : ∀ {x : Rs Out} {R : Rs V}, exc (cfn K (d + 2 * N + 8)) K cm36 ⟨[some (.str (mkS T)), none, none, none], none⟩ = x -> x.bind outV = R -> Rs.bind (exc (cfn K (d + 2 * N + 8)) K cm36 ⟨[some (.str (mkS T)), none, none, none], none⟩) outV = R := fun h k => by rw [h]; exact k
 cases hx : lexF F n (skipF false T) with
 | error m =>
  rw [hx] at hL
  exact fin (x := .exc (errX T m)) (pre (x_seqE hL)) rfl
 | ok ts =>
  have hts := lex_len n _ ts (gd_suf hsk hg) hx
  rw [hx] at hL
  obtain ⟨y3, hL⟩ := hL
  rw [List.nil_append] at hL
  exact fin (x := .ok (.ret (.d (.list (ts.map (tokD T) ++ [endD T]))))) (pre (s_wh hL (s_seq (x_push rfl (e_tup4 rfl rfl rfl rfl) (by rw [List.length_map]; lia)) rfl))) rfl
theorem f51 {N F n : Nat} (hf : Fit T) (hK : 4001 <= K) (hg : gd T = true) (hN : T.count 36 <= N) (hF : T.length < F) (hn : T.length < n) (hN30 : N <= 28) : cfn K (d + 2 * N + 5) 51 [.str (mkS T)] = lexR T (lexF F n (skipF false T)) := by
 rw [c51]
 have hf' : T.length <= 4000 := hf
 have hsk := skip_suf false T
 have hl := hsk.length_le
 have hL := LX (K := K) (N := N) (F := F) (i := 50) (j := 43) (cf := cfn K (d + 2 * N + 4)) hf (fun c r h1 h2 h3 h4 => f50 hf hK h1 h2 h3 h4 hN30) (fun u h1 h2 => f43 (d := d + 2 * N + 3) hf hK h1 h2) K n (skipF false T) [] none hsk (gd_suf hsk hg) (Nat.le_trans (cnt_suf hsk) hN) (by lia) (by lia) (by lia) (by show 0 + _ <= _; lia)
 have g := f43 (K := K) (d := d + 2 * N + 3) hf hK (List.suffix_refl T) hg
 rw [pos_self] at g
 show Rs.bind (exc (cfn K (d + 2 * N + 4)) K cm51 ⟨[some (.str (mkS T)), none, none, none], none⟩) outV = _
 have hm : exc (cfn K (d + 2 * N + 4)) K (.mkOwnA 2 (.call 43 (.cons (.v 0) (.cons (.int 0) .nil)))) ⟨[some (.str (mkS T)), none, none, none], none⟩ = .ok (.next ⟨[some (.str (mkS T)), none, some (.int (pos T (skipF false T))), none], some []⟩) := by
  show (ev (cfn K (d + 2 * N + 4)) _ (.call 43 (.cons (.v 0) (.cons (.int 0) .nil)))).bind _ = _
  rw [e_call2 rfl rfl g]; rfl
 have fin : ∀ {x : Rs Out} {R : Rs V}, exc (cfn K (d + 2 * N + 4)) K cm51 ⟨[some (.str (mkS T)), none, none, none], none⟩ = x -> x.bind outV = R -> Rs.bind (exc (cfn K (d + 2 * N + 4)) K cm51 ⟨[some (.str (mkS T)), none, none, none], none⟩) outV = R := fun h k => by rw [h]; exact k
 cases hx : lexF F n (skipF false T) with
 | error m =>
  rw [hx] at hL
  exact fin (x := .exc (errX T m)) (s_seq hm (x_seqE hL)) rfl
 | ok ts =>
  have hts := lex_len n _ ts (gd_suf hsk hg) hx
  rw [hx] at hL
  obtain ⟨y3, hL⟩ := hL
  rw [List.nil_append] at hL
  have hp : exc (cfn K (d + 2 * N + 4)) K (.retPush (.tup (.cons (.str ⟨#[101, 110, 100]⟩) (.cons (.str ⟨#[]⟩) (.cons (.v 2) (.cons (.v 2) .nil)))))) ⟨[some (.str (mkS T)), none, some (.int (pos T [])), y3], some (ts.map (tokD T))⟩ = .ok (.ret (.d (.list (ts.map (tokD T) ++ [endD T])))) := by
   show (if (ts.map (tokD T)).length < big then Rs.ok (Out.ret (V.d (.list (ts.map (tokD T) ++ [endD T])))) else .stuck) = _
   rw [if_pos (by rw [List.length_map]; exact Nat.lt_of_le_of_lt (Nat.le_trans hts (Nat.le_trans hl hf')) (by decide))]
  exact fin (x := .ok (.ret (.d (.list (ts.map (tokD T) ++ [endD T]))))) (s_seq hm (s_wh hL hp)) rfl
end
noncomputable def gapc (c : Nat) : Bool := c == 32 || c == 10 || c == 9 || c == 35 || c == 92
noncomputable def gapH (e : List Nat) : Prop := e = [] \/ ∃ c t, e = c :: t /\ gapc c = true
noncomputable def May (e e' : List Nat) : Prop := gapH e' \/ ∃ c t t', e = c :: t /\ e' = c :: t' /\ (c = 58 -> (∃ q, t' = 58 :: q) -> ∃ q, t = 58 :: q)
noncomputable def Mays (e e' : List Nat) : Prop := gapH e' \/ e' <+: e
theorem Mays.cp {e e' : List Nat} (h : Mays e e') : May e e' := by
 rcases h with h | ⟨z, rfl⟩
 ·exact .inl h
 ·cases e' with
  | nil => exact .inl (.inl rfl)
  | cons c t' =>
   refine .inr ⟨c, t' ++ z, t', rfl, rfl, fun _ ⟨q, hq⟩ => ⟨q ++ z, by rw [hq]; rfl⟩⟩
theorem gapc_word {c : Nat} (h : gapc c = true) : wordc c = false /\ c ≠ 58 /\ c ≠ 40 /\ c ≠ 123 /\ c ≠ 46 /\ c ≠ 101 /\ c ≠ 69 := by
 unfold gapc at h
 simp only [Bool.or_eq_true, beq_iff_eq] at h
 rcases h with (((rfl | rfl) | rfl) | rfl) | rfl <;> decide
theorem nm_stop {n b : Bool} {c : Nat} {t : List Nat} (h1 : (b && c == 58) = false) (h2 : wordc c = false) (h3 : ¬(c = 58 /\ ∃ q, t = 58 :: q)) : nmF n b (c :: t) = c :: t := by
 rw [nm_eq, h1, h2]
 exact nmT_stay h3
theorem nm_stop_inv {n b : Bool} {c : Nat} {t : List Nat} (h : nmF n b (c :: t) = c :: t) : (b && c == 58) = false /\ wordc c = false /\ ¬(c = 58 /\ ∃ q, t = 58 :: q) := by
 have key : ∀ {b' : Bool} {u : List Nat}, u.length <= t.length -> nmF n b' u = c :: t -> False := by
  intro b' u hl q
  have := Nat.le_trans (nm_suf n b' u).length_le hl
  rw [q, List.length_cons] at this; lia
 rw [nm_eq] at h
 by_cases h1 : (b && c == 58) = true
 ·rw [if_pos h1] at h; exact (key (Nat.le_refl _) h).elim
 rw [if_neg h1] at h
 by_cases h2 : wordc c = true
 ·rw [if_pos h2] at h; exact (key (Nat.le_refl _) h).elim
 rw [if_neg h2] at h
 refine ⟨Bool.eq_false_iff.mpr h1, Bool.eq_false_iff.mpr h2, ?_⟩
 rintro ⟨rfl, q, rfl⟩
 exact key (Nat.le_succ _) (show nmF n n q = _ from h)
theorem nm_base {n b : Bool} {e e' : List Nat} (h : nmF n b e = e) (hc : May e e') : nmF n b e' = e' := by
 rcases hc with (rfl | ⟨c, t, rfl, hg⟩) | ⟨c, t, t', rfl, rfl, h3⟩
 ·cases b <;> rfl
 ·obtain ⟨g1, g2, _⟩ := gapc_word hg
  exact nm_stop (by simp [g2]) g1 (fun q => g2 q.1)
 ·obtain ⟨i1, i2, i3⟩ := nm_stop_inv h
  exact nm_stop i1 i2 (fun q => i3 ⟨q.1, h3 q.1 q.2⟩)
theorem nm_loc {n : Bool} {e e' : List Nat} (hc : May e e') : ∀ (k : Nat) (b : Bool) (x : List Nat), x.length <= k -> nmF n b (x ++ e) = e -> nmF n b (x ++ e') = e'
 | _, b, [], _, h => nm_base h hc
 | 0, _, _ :: _, hk, _ => by simp at hk
 | k + 1, b, c :: x, hk, h => by
  have hk' : x.length <= k := by simpa using hk
  rw [List.cons_append] at h ⊢
  cases h1 : b && c == 58
  ·cases h2 : wordc c
   ·by_cases h3 : c = 58 /\ ∃ q, x ++ e = 58 :: q
    ·obtain ⟨rfl, q, hq⟩ := h3
     have hb : b = false := by simpa using h1
     subst hb
     cases x with
     | nil =>
      exfalso
      rw [List.nil_append] at hq h
      rw [hq] at h
      have := (nm_suf n n q).length_le
      rw [show nmF n n q = 58 :: q from h, List.length_cons] at this
      lia
     | cons y x =>
      rw [List.cons_append] at hq h
      injection hq with hy hq
      subst hy
      exact nm_loc hc k n x (by simp at hk'; lia) h
    ·exfalso
     have := nm_stop (n := n) h1 h2 h3
     rw [this] at h
     have hl := congrArg List.length h
     rw [List.length_cons, List.length_append] at hl
     lia
   ·have e1 : ∀ z, nmF n b (c :: z) = nmF n false z := fun z => nm_word h2
    rw [e1] at h ⊢
    exact nm_loc hc k false x hk' h
  ·have e1 : ∀ z, nmF n b (c :: z) = nmF n true z := fun z => by
    rw [nm_eq]
    exact if_pos h1
   rw [e1] at h ⊢
   exact nm_loc hc k true x hk' h
theorem dropC_loc {y : Nat} : ∀ {u e : List Nat}, dropC y u = y :: e -> ∃ x, u = x ++ y :: e /\ ∀ e', dropC y (x ++ y :: e') = y :: e'
 | [], e, h => (by cases h)
 | c :: r, e, h => by
  rw [dropC_eq] at h
  cases q : c == y
  ·rw [q] at h
   obtain ⟨x, rfl, h2⟩ := dropC_loc h
   refine ⟨c :: x, rfl, fun e' => ?_⟩
   rw [List.cons_append]
   rw [dropC_eq]
   rw [q]
   exact h2 e'
  ·rw [q] at h
   have : c = y := by simpa using q
   subst this
   injection h with _ h
   subst h
   refine ⟨[], rfl, fun e' => ?_⟩
   show dropC c (c :: e') = c :: e'
   rw [dropC_eq]
   simp
theorem mid (x : List Nat) (y : Nat) (e e' : List Nat) : ∃ c t t', x ++ y :: e = c :: t /\ x ++ y :: e' = c :: t' /\ (y ≠ 58 -> c = 58 -> (∃ q, t' = 58 :: q) -> ∃ q, t = 58 :: q) := by
 cases x with
 | nil => exact ⟨y, e, e', rfl, rfl, fun h q => absurd q h⟩
 | cons c x =>
  refine ⟨c, x ++ y :: e, x ++ y :: e', rfl, rfl, fun h _ ⟨q, hq⟩ => ?_⟩
  cases x with
  | nil => injection hq with hq _; exact absurd hq h
  | cons c2 x => injection hq with hq _; subst hq; exact ⟨x ++ y :: e, rfl⟩
theorem mid_cp {x : List Nat} {y : Nat} {e e' : List Nat} (hy : y ≠ 58) : May (x ++ y :: e) (x ++ y :: e') := by
 obtain ⟨c, t, t', h1, h2, h3⟩ := mid x y e e'
 exact .inr ⟨c, t, t', h1, h2, h3 hy⟩
theorem cp_take {e e' : List Nat} {y : Nat} (h : May e e') (hy : gapc y = false) (he : ¬(e.take 1 == [y]) = true) : ¬(e'.take 1 == [y]) = true := by
 rcases h with (rfl | ⟨c, t, rfl, hg⟩) | ⟨c, t, t', rfl, rfl, h3⟩
 ·exact fun q => nomatch q
 ·intro q
  have q : c = y := (List.cons.inj (eq_of_beq q)).1
  rw [q, hy] at hg; cases hg
 ·exact he
theorem app1 (x : List Nat) (z : Nat) (e : List Nat) : x ++ [z] ++ e = x ++ z :: e := List.append_assoc x [z] e
theorem take_mid (x : List Nat) (y : Nat) (e e' : List Nat) : (x ++ y :: e).take 1 = (x ++ y :: e').take 1 := by cases x <;> rfl
theorem fill_end {f st : Nat} {P ps : List PyData} {R : List Nat} {c : Nat} {e : List Nat} (h : fillF f st P R [] = .ok (ps, c :: e)) : False := by
 cases f with
 | zero => exact fill_0 h
 | succ f => exact nomatch (fill_nil h).2
theorem len_ne {a : Nat} {x e : List Nat} : ¬(e.length == (a :: x ++ e).length) = true := fun q => by
 have q := eq_of_beq q
 rw [List.cons_append, List.length_cons, List.length_append] at q
 exact absurd q (Nat.ne_of_lt (Nat.lt_succ_of_le (Nat.le_add_left _ _)))
noncomputable def Ends (r e : List Nat) : Prop := (∃ y z, (z = 125 \/ z = 41) /\ r = y ++ z :: e) \/ nmF true false r <:+ e
section
variable {ε α β γ : Type} {a x : α} {b y : β} {c z : γ}
theorem ok2 {P : α -> β -> Prop} (h : (Except.ok (a, b) : Except ε (α × β)) = .ok (x, y)) (k : P a b) : P x y := by cases h; exact k
theorem ok3 {P : α -> β -> γ -> Prop} (h : (Except.ok (a, b, c) : Except ε (α × β × γ)) = .ok (x, y, z)) (k : P a b c) : P x y z := by cases h; exact k
end
noncomputable def LocD (f : Nat) (r : List Nat) (p : Option (List Nat × PyData)) (e : List Nat) : Prop := ∃ x, r = x ++ e /\ Ends r e /\ ∀ e', May e e' -> dolF f (x ++ e') = .ok (p, e')
noncomputable def LocF (f st : Nat) (P : List PyData) (R u : List Nat) (ps : List PyData) (e : List Nat) : Prop := ∃ x, u = x ++ st :: e /\ ∀ e', fillF f st P R (x ++ st :: e') = .ok (ps, st :: e')
theorem locs (f : Nat) : (∀ r p e, dolF f r = .ok (p, e) -> LocD f r p e) /\ (∀ st P R u ps e, st ≠ 58 -> fillF f st P R u = .ok (ps, st :: e) -> LocF f st P R u ps e) := by
 induction f with
 | zero => exact ⟨fun _ _ _ h => (dol_0 h).elim, fun _ _ _ _ _ _ _ h => (fill_0 h).elim⟩
 | succ f H =>
  obtain ⟨H1, H2⟩ := H
  refine ⟨fun r p e h => ?_, fun st P R u ps e hst h => ?_⟩
  ·refine dol_inv h (fun t hr h => brK_inv h (fun h => nomatch h) fun a e1 hd h => ?_) (fun e1 hb hn h => paK_inv h (fun _ _ h => nomatch h) (fun h => nomatch h) fun ps a e2 hd h => ?_) (fun hb hp hn h => ?_) fun hb hp hl h => ?_
   ·refine ok2 h ?_
    obtain rfl := dropC_head hd
    subst hr
    obtain ⟨x, rfl, h2⟩ := dropC_loc hd
    refine ⟨123 :: (x ++ [125]), congrArg (123 :: ·) (app1 ..).symm, .inl ⟨123 :: x, 125, .inl rfl, rfl⟩, fun e' _ => ?_⟩
    rw [List.cons_append, app1, dol_br, h2 e']
    show Except.ok (some (dif (x ++ 125 :: e') (125 :: e'), _), e') = Except.ok (some (dif (x ++ 125 :: e1) (125 :: e1), _), e')
    rw [dif_append, dif_append]
   ·refine ok2 h ?_
    obtain rfl := fill_head _ _ _ _ _ hd
    obtain ⟨x1, hx1⟩ := nm_suf true false r
    rw [hn] at hx1
    subst hx1
    obtain ⟨x2, rfl, h3⟩ := H2 41 [] [] e1 ps e2 (by decide) hd
    have e1 : ∀ z, x1 ++ 40 :: x2 ++ [41] ++ z = x1 ++ 40 :: (x2 ++ 41 :: z) := fun z => (app1 ..).trans (List.append_assoc x1 (40 :: x2) _)
    refine ⟨x1 ++ 40 :: x2 ++ [41], (e1 _).symm, .inl ⟨x1 ++ 40 :: x2, 41, .inr rfl, (List.append_assoc x1 (40 :: x2) _).symm⟩, fun e' _ => ?_⟩
    rw [e1, dol_pa (by rw [take_mid]; exact hb) (nm_loc (.inr ⟨40, _, _, rfl, rfl, fun q => nomatch q⟩) x1.length false x1 (Nat.le_refl _) hn), h3 e', dif_append, dif_append]
    rfl
   ·refine ok2 h ?_
    rw [hn] at hp
    refine ⟨[], rfl, .inr (by rw [hn]; exact List.suffix_refl _), fun e' hc => ?_⟩
    have hn2 := nm_base hn hc
    rw [List.nil_append, dol_no (cp_take hc rfl hb) (by rw [hn2]; exact cp_take hc rfl hp), hn2, if_pos (beq_self_eq_true _)]
   ·obtain ⟨x1, hx1⟩ := nm_suf true false r
    generalize hE : nmF true false r = E at h hp hl hx1
    refine ok2 h ?_
    subst hx1
    refine ⟨x1, rfl, .inr (by rw [hE]; exact List.suffix_refl _), fun e' hc => ?_⟩
    have hn := nm_loc hc x1.length false x1 (Nat.le_refl _) hE
    cases x1 with
    | nil => exact absurd rfl hl
    | cons a x1 => rw [dol_no (show ¬((a :: x1 ++ e').take 1 == [123]) = true from hb) (by rw [hn]; exact cp_take hc rfl hp), hn, if_neg len_ne, dif_append, dif_append]
  ·cases u with
   | nil => exact nomatch (fill_nil h).2
   | cons c r =>
    refine fill_inv h (fun _ h => ?_) (fun q fw h => ?_) (fun q fw h => ?_) (fun h => nomatch h) (fun r' _ hr fw h => ?_) (fun y r' _ hr fw h => ?_) fun fw h => ?_
    ·cases h
     exact ⟨[], rfl, fun e' => fill_step.trans (if_pos (beq_self_eq_true _))⟩
    ·have K : ∀ {p e1 P' R'}, dolF f r = .ok (p, e1) -> (∀ e', dolK f st P R (.ok (p, e')) = fillF f st P' R' e') -> fillF f st P' R' e1 = .ok (ps, st :: e) -> LocF (f + 1) st P R (c :: r) ps e := by
      intro p e1 P' R' hd hk h4
      obtain ⟨x1, rfl, -, g1⟩ := H1 _ _ _ hd
      obtain ⟨x2, rfl, g2⟩ := H2 _ _ _ _ _ _ hst h4
      refine ⟨c :: (x1 ++ x2), congrArg (c :: ·) (List.append_assoc ..).symm, fun e' => ?_⟩
      rw [List.cons_append, List.append_assoc, fw, g1 _ (mid_cp hst), hk]
      exact g2 e'
     exact dolK_inv h (fun _ _ h => nomatch h) (fun e1 hd h => K hd (fun _ => rfl) h) fun p e1 hd h => K hd (fun _ => rfl) h
    ·cases hd : dropC 93 r with
     | nil => rw [hd] at h; exact (fill_end h).elim
     | cons y e1 =>
      have hy := dropC_head hd
      subst hy
      obtain ⟨x1, rfl, g1⟩ := dropC_loc hd
      rw [hd, dif_append] at h
      obtain ⟨x2, h4, g2⟩ := H2 _ _ _ _ _ _ hst h
      have h4 : e1 = x2 ++ st :: e := h4
      subst h4
      refine ⟨c :: (x1 ++ 93 :: x2), congrArg (c :: ·) (List.append_assoc x1 (93 :: x2) _).symm, fun e' => ?_⟩
      rw [List.cons_append, List.append_assoc, List.cons_append, fw, g1, dif_append]
      exact g2 e'
    ·obtain ⟨x2, h6, g2⟩ := H2 _ _ _ _ _ _ hst h
     obtain ⟨z, rfl, hz⟩ := row_mid h6
     subst hr
     exact ⟨c :: 10 :: (z ++ x2), congrArg (c :: 10 :: ·) (List.append_assoc ..).symm, fun e' => by rw [List.cons_append, List.cons_append, List.append_assoc, fw, hz]; exact g2 e'⟩
    ·obtain ⟨x2, rfl, g2⟩ := H2 _ _ _ _ _ _ hst h
     subst hr
     exact ⟨c :: y :: x2, rfl, fun e' => (fw _).trans (g2 e')⟩
    ·obtain ⟨x2, rfl, g2⟩ := H2 _ _ _ _ _ _ hst h
     exact ⟨c :: x2, rfl, fun e' => (fw _).trans (g2 e')⟩
noncomputable def Cut (e e' : List Nat) : Prop := gapH e' \/ (e' <+: e /\ (isop (dif e (nmF false false e)) = true -> dif e (nmF false false e) <+: e'))
theorem Cut.mays {e e' : List Nat} (h : Cut e e') : Mays e e' := h.imp id (·.1)
theorem gap_figH {b : Int} {e : List Nat} (h : gapH e) : figH b e = false := by
 rcases h with rfl | ⟨c, t, rfl, hg⟩
 ·rfl
 ·show figc b c = false
  cases q : figc b c
  ·rfl
  ·have := (gapc_word hg).1
   rw [fig_word q] at this; cases this
theorem figH_loc {b : Int} {y e e' : List Nat} (h : Mays e e') (hf : figH b (y ++ e) = false) : figH b (y ++ e') = false := by
 cases y with
 | nil =>
  rcases h with h | ⟨z, rfl⟩
  ·exact gap_figH h
  ·cases e' with
   | nil => rfl
   | cons c t => exact hf
 | cons c y => exact hf
noncomputable def expoF (w : List Nat) : Bool := if [[43], [45]].contains (w.take 1) then figH 10 (w.drop 1) else figH 10 w
theorem gap_sign {c : Nat} (h : gapc c = true) : [[43], [45]].contains [c] = false := by
 unfold gapc at h
 simp only [Bool.or_eq_true, beq_iff_eq] at h
 rcases h with (((rfl | rfl) | rfl) | rfl) | rfl <;> decide
theorem expo_loc {y e e' : List Nat} (h : Mays e e') (hf : expoF (y ++ e) = false) : expoF (y ++ e') = false := by
 have cons : ∀ {d : Nat} {w w' : List Nat}, expoF (d :: w) = false -> (figH 10 w = false -> figH 10 w' = false) -> expoF (d :: w') = false := by
  intro d w w' h1 h2
  unfold expoF at h1 ⊢
  simp only [List.take_succ_cons, List.take_zero, List.drop_succ_cons, List.drop_zero] at h1 ⊢
  split
  ·rename_i q
   rw [if_pos q] at h1; exact h2 h1
  ·rename_i q
   rw [if_neg q] at h1; exact h1
 cases y with
 | nil =>
  rcases h with (rfl | ⟨c, t, rfl, hg⟩) | ⟨z, rfl⟩
  ·rfl
  ·unfold expoF
   rw [List.nil_append, List.take_succ_cons, List.take_zero, gap_sign hg]
   exact gap_figH (.inr ⟨c, t, rfl, hg⟩)
  ·cases e' with
   | nil => rfl
   | cons d t' => exact cons hf (fun q => figH_loc (y := []) (.inr ⟨z, rfl⟩) q)
 | cons d y => exact cons hf (fun q => figH_loc h q)
theorem float_cons {c : Nat} {w : List Nat} : floatF (c :: w) = if c == 46 then true else if !(c == 101) && !(c == 69) then false else expoF w := by
 unfold floatF expoF
 simp
theorem float_loc {y e e' : List Nat} (h : Mays e e') (hf : floatF (y ++ e) = false) : floatF (y ++ e') = false := by
 have cons : ∀ {d : Nat} {w w' : List Nat}, floatF (d :: w) = false -> (expoF w = false -> expoF w' = false) -> floatF (d :: w') = false := by
  intro d w w' h1 h2
  rw [float_cons] at h1 ⊢
  split
  ·rename_i q
   rw [if_pos q] at h1; cases h1
  rename_i q
  rw [if_neg q] at h1
  split
  ·rfl
  ·rename_i q2
   rw [if_neg q2] at h1; exact h2 h1
 cases y with
 | nil =>
  rcases h with (rfl | ⟨c, t, rfl, hg⟩) | ⟨z, rfl⟩
  ·rfl
  ·obtain ⟨-, -, -, -, g1, g2, g3⟩ := gapc_word hg
   rw [List.nil_append, float_cons]
   simp [g1, g2, g3]
  ·cases e' with
   | nil => rfl
   | cons d t' => exact cons hf (fun q => expo_loc (y := []) (.inr ⟨z, rfl⟩) q)
 | cons d y => exact cons hf (fun q => expo_loc h q)
noncomputable def mkd (r : List Nat) : Bool := decide (0 < markb (r.take 1)) && figH (markb (r.take 1)) (r.drop 1)
theorem gap_mark {c : Nat} (h : gapc c = true) : markb [c] = 0 := by
 unfold gapc at h
 simp only [Bool.or_eq_true, beq_iff_eq] at h
 rcases h with (((rfl | rfl) | rfl) | rfl) | rfl <;> decide
theorem mkd_loc {y e e' : List Nat} (h : Mays e e') (hf : mkd (y ++ e) = false) : mkd (y ++ e') = false := by
 have cons : ∀ {d : Nat} {w w' : List Nat}, mkd (d :: w) = false -> (∀ b, figH b w = false -> figH b w' = false) -> mkd (d :: w') = false := by
  intro d w w' h1 h2
  unfold mkd at h1 ⊢
  simp only [List.take_succ_cons, List.take_zero, List.drop_succ_cons, List.drop_zero] at h1 ⊢
  rw [Bool.and_eq_false_iff] at h1 ⊢
  exact h1.imp id (h2 _)
 cases y with
 | nil =>
  rcases h with (rfl | ⟨c, t, rfl, hg⟩) | ⟨z, rfl⟩
  ·rfl
  ·unfold mkd
   rw [List.nil_append, List.take_succ_cons, List.take_zero, gap_mark hg]
   rfl
  ·cases e' with
   | nil => rfl
   | cons d t' => exact cons hf (fun b q => figH_loc (y := []) (.inr ⟨z, rfl⟩) q)
 | cons d y => exact cons hf (fun b q => figH_loc h q)
theorem dig_stop {b : Int} : ∀ u : List Nat, figH b (digF b u) = false
 | [] => rfl
 | c :: r => by
  rw [digF_eq]
  cases h : figc b c
  ·exact h
  ·exact dig_stop r
theorem dig_loc {b : Int} {z z' : List Nat} (hz : figH b z' = false) : ∀ q : List Nat, digF b (q ++ z) = z -> digF b (q ++ z') = z'
 | [], _ => by
  cases z' with
  | nil => rfl
  | cons c t =>
   have hz : figc b c = false := hz
   show digF b (c :: t) = c :: t
   rw [digF_eq]
   rw [hz]; rfl
 | c :: q, h => by
  rw [List.cons_append] at h ⊢
  rw [digF_eq] at h ⊢
  cases hc : figc b c
  ·rw [hc] at h
   have hl := congrArg List.length h
   simp at hl
   lia
  ·rw [hc] at h
   exact dig_loc hz q h
theorem gap_nm {e : List Nat} (h : gapH e) : nmF false false e = e := by
 rcases h with rfl | ⟨c, t, rfl, hg⟩
 ·rfl
 ·obtain ⟨g1, g2, _⟩ := gapc_word hg
  exact nm_stop rfl g1 (fun q => g2 q.1)
theorem base_loc {p q y e e' : List Nat} {b : Int} {fl : Bool} (h : Mays e e') (hb : baseF (p ++ (q ++ (y ++ e))) = (b, q ++ (y ++ e), fl)) (hq : q ≠ []) :
  baseF (p ++ (q ++ (y ++ e'))) = (b, q ++ (y ++ e'), fl) := by
 obtain ⟨a, q, rfl⟩ := List.exists_cons_of_ne_nil hq
 have b48 : ∀ r, baseF (48 :: r) = if mkd r then (markb (r.take 1), r.drop 1, false) else (10, 48 :: r, true) := fun _ => rfl
 have bno : ∀ {c : Nat} {r : List Nat}, c ≠ 48 -> baseF (c :: r) = (10, c :: r, true) := base_no
 have low : ∀ {x y z : Int × List Nat × Bool}, x = y -> x.2.1.length ≠ y.2.1.length -> False := fun h k => k (by rw [h])
 cases p with
 | nil =>
  rw [List.nil_append] at hb ⊢
  rw [List.cons_append] at hb ⊢
  by_cases ha : a = 48
  ·subst ha
   rw [b48] at hb ⊢
   cases hm : mkd (q ++ (y ++ e))
   ·rw [hm] at hb
    rw [<- List.append_assoc, mkd_loc h (by rw [List.append_assoc]; exact hm), List.append_assoc]
    injection hb with h1 h2
    injection h2 with h2 h3
    rw [<- h1, <- h3]; rfl
   ·rw [hm] at hb
    exact (low (z := (0, [], false)) hb (by simp)).elim
  ·rw [bno ha] at hb ⊢
   injection hb with h1 h2
   injection h2 with h2 h3
   rw [<- h1, <- h3]
 | cons c p =>
  rw [List.cons_append] at hb ⊢
  by_cases ha : c = 48
  ·subst ha
   rw [b48] at hb ⊢
   cases hm : mkd (p ++ (a :: q ++ (y ++ e)))
   ·rw [hm] at hb
    exact (low (z := (0, [], false)) hb (by simp; lia)).elim
   ·rw [hm] at hb
    injection hb with h1 h2
    injection h2 with h2 h3
    match p, hm, h1, h2 with
    | [m], hm, h1, _ =>
     have : mkd ([m] ++ (a :: q ++ (y ++ e'))) = true := hm
     rw [this, <- h1, <- h3]
     rfl
    | [], _, _, h2 => exact absurd (congrArg List.length h2) (by simp)
    | m :: n :: p, _, _, h2 => exact absurd (congrArg List.length h2) (by simp; lia)
  ·rw [bno ha] at hb
   exact (low (z := (0, [], false)) hb (by simp; lia)).elim
noncomputable def LocN (u : List Nat) (s v : PyData) (e : List Nat) : Prop := ∃ x, u = x ++ e /\ nmF false false u <:+ e /\ ∀ e', Cut e e' -> numF (x ++ e') = .ok (s, v, e')
structure PreN (u : List Nat) (b : Int × List Nat × Bool) (v0 p q : List Nat) : Prop where
 hu : u = p ++ (q ++ v0)
 hw : b.2.1 = q ++ v0
 hrun : nmF false false u = nmF false false v0
 L : ∀ {y e e'}, v0 = y ++ e -> Mays e e' -> baseF (p ++ (q ++ (y ++ e'))) = (b.1, q ++ (y ++ e'), b.2.2) /\ digF b.1 (q ++ (y ++ e')) = y ++ e' /\ (b.2.2 && floatF (y ++ e')) = false
theorem pre_num {c : Nat} {r : List Nat} (hg : gd (c :: r) = true) (hc : figc 10 c = true) : ∀ {b : Int × List Nat × Bool} {v0 : List Nat}, baseF (c :: r) = b -> digF b.1 b.2.1 = v0 -> (b.2.2 && floatF v0) = false -> ∃ p q, PreN (c :: r) b v0 p q := by
 have hb := base_ok hg hc
 rintro ⟨b, w, fl⟩ v0 hB hv hfl
 rw [hB] at hb
 dsimp only at hv hfl
 obtain ⟨p, hp⟩ := hb.suf
 obtain ⟨q, hq⟩ := dig_suf (b := b) w
 have hq0 : q ≠ [] := by
  rintro rfl
  have h1 := dig_ne hb.fig
  rw [show digF b w = w from hq] at h1
  exact h1 (dif_self _)
 have hst : figH b (digF b w) = false := dig_stop w
 have hrun := hb.run.trans (nm_dig (b := b) w)
 dsimp only at hp hrun
 rw [hv] at hq hst hrun
 subst hq
 refine ⟨p, q, hp.symm, rfl, hrun, fun {y e e'} h1 h2 => ?_⟩
 subst h1
 rw [<- hp] at hB
 refine ⟨base_loc h2 hB hq0, dig_loc (figH_loc h2 hst) q hv, ?_⟩
 rw [Bool.and_eq_false_iff] at hfl ⊢
 exact hfl.imp id (float_loc h2)
section
variable {u p q y E e : List Nat} {b : Int × List Nat × Bool}
theorem num_a (R : PreN u b (y ++ E) p q) (q3 : nmF false false (y ++ E) = E) (hcnd : (decide (E.length < (y ++ E).length) && (!((y ++ E).take 1 == [58]) && !isop (dif (y ++ E) E))) = true) : LocN u wrdS (.str ⟨(dif u E).toArray⟩) E := by
 have eq : ∀ z, p ++ (q ++ (y ++ z)) = p ++ (q ++ y) ++ z := fun z => by rw [List.append_assoc, List.append_assoc]
 refine ⟨p ++ (q ++ y), by rw [R.hu, eq], by rw [R.hrun, q3]; exact List.suffix_refl _, fun e' hc => ?_⟩
 obtain ⟨b1, d1, f1⟩ := R.L rfl hc.mays
 have n1 := nm_loc hc.mays.cp y.length false y (Nat.le_refl _) q3
 rw [dif_append] at hcnd
 rw [Bool.and_eq_true, decide_eq_true_eq] at hcnd
 have hh : (decide (e'.length < (y ++ e').length) && (!((y ++ e').take 1 == [58]) && !isop (dif (y ++ e') e'))) = true := by
  rw [dif_append]
  cases y with
  | nil => exact absurd hcnd.1 (Nat.lt_irrefl _)
  | cons a y => rw [Bool.and_eq_true, decide_eq_true_eq]; exact ⟨by rw [List.length_append, List.length_cons]; lia, hcnd.2⟩
 unfold numF
 dsimp only
 rw [<- eq, b1]
 dsimp only
 rw [d1, n1, f1, hh, R.hu, eq, eq, dif_append, dif_append, dif_append]
 rfl
theorem num_b (R : PreN u b e p q) (hcnd : (decide ((nmF false false e).length < e.length) && (!(e.take 1 == [58]) && !isop (dif e (nmF false false e)))) = false) : LocN u numS (.int (valF b.1 0 (dif b.2.1 e))) e := by
 rw [R.hw, dif_append]
 refine ⟨p ++ q, by rw [R.hu, List.append_assoc], by rw [R.hrun]; exact nm_suf _ _ _, fun e' hc => ?_⟩
 obtain ⟨b1, d1, f1⟩   := R.L (y := []) rfl hc.mays
 rw [List.nil_append] at b1 d1 f1
 have hnc : (decide ((nmF false false e').length < e'.length) && (!(e'.take 1 == [58]) && !isop (dif e' (nmF false false e')))) = false := by
  rcases hc with hgap | ⟨⟨z, hz⟩, hw⟩
  ·rw [gap_nm hgap, decide_eq_false (Nat.lt_irrefl _)]; rfl
  ·rw [Bool.and_eq_false_iff, Bool.and_eq_false_iff, Bool.not_eq_false', Bool.not_eq_false', decide_eq_false_iff_not] at hcnd ⊢
   rcases hcnd with k | k | k
   ·have hv : nmF false false e = e := (nm_suf false false e).eq_of_length (Nat.le_antisymm (nm_suf false false e).length_le (Nat.not_lt.mp k))
    left
    rw [nm_base hv (Mays.cp (.inr ⟨z, hz⟩))]
    exact Nat.lt_irrefl _
   ·cases e' with
    | nil => left; exact Nat.lt_irrefl _
    | cons a e' => right; left; rw [<- hz] at k; exact k
   ·right; right
    obtain ⟨t, ht⟩ := hw k
    obtain ⟨y, hy⟩ := nm_suf false false e
    generalize hE : nmF false false e = E at hy k ht
    subst hy
    rw [dif_append] at k ht
    subst ht
    rw [List.append_assoc] at hz
    rw [nm_loc (Mays.cp (.inr ⟨z, List.append_cancel_left hz⟩)) y.length false y (Nat.le_refl _) hE, dif_append]
    exact k
 unfold numF
 dsimp only
 rw [List.append_assoc, b1]
 dsimp only
 rw [d1, f1, hnc, dif_append]
 rfl
end
theorem num_loc {c : Nat} {r : List Nat} {s v : PyData} {e : List Nat} (hg : gd (c :: r) = true) (hc : figc 10 c = true) (h : numF (c :: r) = .ok (s, v, e)) : LocN (c :: r) s v e := by
 refine num_inv h (fun h => nomatch h) (fun b v0 E q1 q2 q3 hfl hcnd h => ?_) fun b v0 E q1 q2 q3 hfl hcnd h => ?_
 ·obtain ⟨p, q, R⟩ := pre_num hg hc q1 q2 hfl
  obtain ⟨y, hy⟩ := nm_suf false false v0
  rw [q3] at hy
  subst hy
  exact ok3 h (num_a R q3 hcnd)
 ·obtain ⟨p, q, R⟩ := pre_num hg hc q1 q2 hfl
  rw [<- q3] at hcnd
  exact ok3 h (num_b R hcnd)
theorem twos_len : ∀ t ∈ twos, t.length = 2 /\ ∀ c, gapc c = true -> t.drop 1 ≠ [c] := by
 have hd : twos.all (fun t => match t with | [_, b] => !gapc b | _ => false) = true := by decide
 intro t ht
 have := List.all_eq_true.mp hd t ht
 match t, this with
 | [a, b], h =>
  refine ⟨rfl, fun c hc q => ?_⟩
  have : b = c := by simpa using q
  subst this
  dsimp only at h
  rw [hc] at h; cases h
noncomputable def opg (a : Nat) : Bool := !gapc a && a != 91
theorem op_sg (l : List (List Nat)) (h : (l.all fun t => t.all opg) = true) {t : List Nat} (ht : l.contains t = true) : ∀ a ∈ t, opg a = true := List.all_eq_true.mp (List.all_eq_true.mp h t (List.contains_iff_mem.mp ht))
theorem op_loc {c : Nat} {r O : List Nat} (h : opF (c :: r) = O) (h0 : O ≠ []) : ∃ y x, O = c :: y /\ r = y ++ x /\ (∀ a ∈ O, opg a = true) /\ ∀ e', Mays x e' -> opF (O ++ e') = O := by
 refine of_ite h (fun q h => ?_) fun q1 h => of_ite h (fun q h => ?_) fun _ h => absurd h.symm h0
 ·match r, (twos_len _ (List.contains_iff_mem.mp q)).1, q, h with
  | d :: r, _, q, h =>
   subst h
   exact ⟨[d], r, rfl, rfl, op_sg twos (by decide) q, fun e' _ => if_pos q⟩
 ·subst h
  refine ⟨[], r, rfl, rfl, op_sg ones (by decide) q, fun e' he => (if_neg fun p => ?_).trans (if_pos q)⟩
  obtain ⟨l1, l2⟩ := twos_len _ (List.contains_iff_mem.mp p)
  rcases he with (rfl | ⟨g, t, rfl, hg⟩) | ⟨z, rfl⟩
  ·exact nomatch l1
  ·exact l2 g hg rfl
  ·cases e' with
   | nil => exact nomatch l1
   | cons d t => exact q1 p
theorem sgn_loc {c : Nat} {r : List Nat} {s v : PyData} {e : List Nat} (hg : gd (c :: r) = true) (h : sgnF c r = .ok (s, v, e)) :
  ∃ y, r = y ++ e /\ ((∀ a ∈ c :: y, opg a = true) \/ (wordc c = true /\ nmF false false (c :: r) <:+ e)) /\ ∀ e', Cut e e' -> sgnF c (y ++ e') = .ok (s, v, e') := by
 refine sgn_inv h (fun _ _ h => nomatch h) (fun ho fw h => ?_) (fun w q fw hn h => ?_) fun _ q fw h => ?_
 ·obtain ⟨y, x, hO, hx, ha, hl⟩ := op_loc (c := c) (r := r) rfl (fun q => ho (by rw [q]; rfl))
  rw [hO] at h ha hl
  subst hx
  rw [<- List.cons_append, List.drop_left] at h
  cases h
  refine ⟨y, rfl, .inl ha, fun e' he => ?_⟩
  have q : opF (c :: (y ++ e')) = c :: y := hl e' he.mays
  rw [fw _ (by rw [q]; exact fun p => nomatch p), q, <- List.cons_append, List.drop_left]
 ·cases h
  obtain ⟨x, hx, hrun, hl⟩ := num_loc hg q hn
  cases x with
  | nil => exact absurd (num_suf hg q hn).length_le (by rw [<- show c :: r = e from hx]; exact Nat.not_succ_le_self _)
  | cons a y =>
   injection hx with ha hx
   subst ha hx
   exact ⟨y, rfl, .inr ⟨fig_word q, hrun⟩, fun e' he => (fw _).trans (congrArg numK (hl e' he))⟩
 ·obtain ⟨y, hy⟩ := nm_tail (r := r) q
  generalize hE : nmF false false (c :: r) = E at h hy ⊢
  subst hy
  rw [<- List.cons_append, dif_append] at h
  cases h
  refine ⟨y, rfl, .inr ⟨q, List.suffix_refl _⟩, fun e' he => ?_⟩
  have n1 : nmF false false (c :: (y ++ e')) = e' := nm_loc he.mays.cp (c :: y).length false (c :: y) (Nat.le_refl _) hE
  rw [fw, n1, <- List.cons_append, dif_append]
noncomputable def Cl (x : List Nat) : Prop := ∀ e', gd e' = true -> gd (x ++ e') = true
theorem Cl.nil : Cl [] := fun _ h => h
theorem Cl.app {a b : List Nat} (ha : Cl a) (hb : Cl b) : Cl (a ++ b) := fun e h => by rw [List.append_assoc]; exact ha _ (hb _ h)
theorem gd_cons {c : Nat} {r : List Nat} : gd (c :: r) = true ↔ (okc c = true /\ bsl c r = true /\ brk c r = true) /\ gd r = true := by
 rw [show gd (c :: r) = (okc c && bsl c r && brk c r && gd r) from rfl]
 simp only [Bool.and_eq_true, and_assoc]
theorem bsl_no {c : Nat} {r : List Nat} (h : c ≠ 92) : bsl c r = true := by
 unfold bsl
 have : (c != 92) = true := by simpa using h
 rw [this]; rfl
theorem brk_no {c : Nat} {r : List Nat} (h : c ≠ 91) : brk c r = true := by
 unfold brk
 have : (c != 91) = true := by simpa using h
 rw [this]; rfl
theorem cl_no : ∀ {y e : List Nat}, gd (y ++ e) = true -> (∀ a ∈ y, a ≠ 91 /\ a ≠ 92) -> Cl y
 | [], _, _, _ => Cl.nil
 | c :: y, e, h, k => by
  intro e' he
  rw [List.cons_append] at h ⊢
  obtain ⟨⟨h1, _, _⟩, h4⟩ := gd_cons.mp h
  obtain ⟨k1, k2⟩ := k c List.mem_cons_self
  exact gd_cons.mpr ⟨⟨h1, bsl_no k2, brk_no k1⟩, cl_no h4 (fun a ha => k a (List.mem_cons_of_mem _ ha)) e' he⟩
theorem brk_ends {z : Nat} {e e' : List Nat} (hz : z ≠ 102 /\ z ≠ 32 /\ z ≠ 49) : ∀ y : List Nat, brk 91 (y ++ z :: e) = true -> brk 91 (y ++ z :: e') = true := by
 intro y h
 have key : (y ++ z :: e).take 1 = (y ++ z :: e').take 1 := by cases y <;> rfl
 unfold brk at h ⊢
 rw [key] at h
 simp only [bne_self_eq_false, Bool.false_or, Bool.or_eq_true, beq_iff_eq] at h ⊢
 refine h.imp id fun h => ?_
 rcases y with _ | ⟨a, _ | ⟨b, _ | ⟨c, y⟩⟩⟩
 ·exact absurd (List.cons.inj h).1 hz.1
 ·exact absurd (List.cons.inj (List.cons.inj h).2).1 hz.2.1
 ·exact absurd (List.cons.inj (List.cons.inj (List.cons.inj h).2).2).1 hz.2.2
 ·rw [<- show (a :: b :: c :: y ++ z :: e).take 4 = (a :: b :: c :: y ++ z :: e').take 4 by cases y <;> rfl]; exact h
theorem cl_end {z : Nat} (hz : z ≠ 102 /\ z ≠ 32 /\ z ≠ 49) (hb : z ≠ 91 /\ z ≠ 92) : ∀ {y e : List Nat}, gd (y ++ z :: e) = true -> Cl (y ++ [z])
 | [], e, h => fun e' he => by
  obtain ⟨⟨h1, _, _⟩, _⟩ := gd_cons.mp h
  exact gd_cons.mpr ⟨⟨h1, bsl_no hb.2, brk_no hb.1⟩, he⟩
 | c :: y, e, h => fun e' he => by
  rw [List.cons_append] at h
  obtain ⟨⟨h1, h2, h3⟩, h4⟩ := gd_cons.mp h
  have ih := cl_end hz hb h4 e' he
  have e1 : c :: y ++ [z] ++ e' = c :: (y ++ z :: e') := by simp
  have e2 : y ++ [z] ++ e' = y ++ z :: e' := by simp
  rw [e2] at ih
  rw [e1]
  refine gd_cons.mpr ⟨⟨h1, ?_, ?_⟩, ih⟩
  ·cases y <;> exact h2
  ·by_cases hc : c = 91
   ·subst hc; exact brk_ends hz y h3
   ·exact brk_no hc
theorem nm_chars (n : Bool) : ∀ (k : Nat) (b : Bool) (u : List Nat), u.length <= k -> ∃ y, u = y ++ nmF n b u /\ ∀ a ∈ y, a ≠ 91 /\ a ≠ 92
 | _, _, [], _ => ⟨[], by cases ‹Bool› <;> rfl, fun a h => by cases h⟩
 | 0, _, _ :: _, h => (by simp at h)
 | k + 1, b, c :: r, h => by
  have h' : r.length <= k := by simpa using h
  have cons : ∀ {w x : List Nat}, x = w ++ nmF n b (c :: r) -> x = r -> (c ≠ 91 /\ c ≠ 92) -> (∀ a ∈ w, a ≠ 91 /\ a ≠ 92) -> ∃ y, c :: r = y ++ nmF n b (c :: r) /\ ∀ a ∈ y, a ≠ 91 /\ a ≠ 92 := by
   intro w x h1 h2 h3 h4
   refine ⟨c :: w, by rw [List.cons_append, <- h1, h2], fun a ha => ?_⟩
   rcases List.mem_cons.mp ha with rfl | q
   ·exact h3
   ·exact h4 a q
  cases h1 : b && c == 58
  ·cases h2 : wordc c
   ·by_cases h3 : c = 58 /\ ∃ q, r = 58 :: q
    ·obtain ⟨rfl, q, rfl⟩ := h3
     have hb : b = false := by simpa using h1
     subst hb
     have e : nmF n false (58 :: 58 :: q) = nmF n n q := rfl
     obtain ⟨y, hy, hk⟩ := nm_chars n k n q (by simp at h'; lia)
     refine ⟨58 :: 58 :: y, by rw [e, List.cons_append, List.cons_append, <- hy], fun a ha => ?_⟩
     rcases List.mem_cons.mp ha with rfl | ha
     ·decide
     rcases List.mem_cons.mp ha with rfl | ha
     ·decide
     ·exact hk a ha
    ·rw [nm_stop h1 h2 h3]
     exact ⟨[], rfl, fun a h => by cases h⟩
   ·obtain ⟨y, hy, hk⟩ := nm_chars n k false r h'
    have hc : c ≠ 91 /\ c ≠ 92 := ⟨fun q => (by subst q; cases h2), fun q => (by subst q; cases h2)⟩
    exact cons (w := y) (x := r) (by rw [nm_word h2]; exact hy) rfl hc hk
  ·obtain ⟨y, hy, hk⟩ := nm_chars n k true r h'
   have hc : c ≠ 91 /\ c ≠ 92 := ⟨fun q => (by subst q; simp at h1), fun q => (by subst q; simp at h1)⟩
   have e : nmF n b (c :: r) = nmF n true r := by
    rw [nm_eq]
    exact if_pos h1
   exact cons (w := y) (x := r) (by rw [e]; exact hy) rfl hc hk
theorem cl_run {n b : Bool} {u y e : List Nat} (hg : gd u = true) (hu : u = y ++ e) (hs : nmF n b u <:+ e) : Cl y := by
 obtain ⟨Y, hY, hk⟩ := nm_chars n u.length b u (Nat.le_refl _)
 obtain ⟨z, hz⟩ := hs
 have : Y = y ++ z := by
  have h1 : Y ++ nmF n b u = (y ++ z) ++ nmF n b u := by rw [<- hY, List.append_assoc, hz]; exact hu
  exact List.append_cancel_right h1
 rw [hu] at hg
 exact cl_no hg (fun a ha => hk a (by rw [this]; exact List.mem_append_left _ ha))
theorem cl_end' {z : Nat} {x y e : List Nat} (hz : (z ≠ 102 /\ z ≠ 32 /\ z ≠ 49) /\ z ≠ 91 /\ z ≠ 92) (hg : gd (x ++ e) = true) (h : x ++ e = y ++ z :: e) : Cl x := by
 have : x = y ++ [z] := by
  have : x ++ e = (y ++ [z]) ++ e := by rw [h]; simp
  exact List.append_cancel_right this
 rw [this]
 rw [h] at hg
 exact cl_end hz.1 hz.2 hg
section
variable {F : Nat} {r e : List Nat}
theorem tok_36 {p : List Nat × PyData} (h : dolF F r = .ok (some p, e)) : tokF F (36 :: r) = .ok (partsS, .tuple [varP p.1 p.2], e) := by
 show (match dolF F r with | .error m => _ | .ok (none, _) => _ | .ok (some p, e) => _) = _
 rw [h]
theorem tok_91 : tokF F (91 :: r) = .ok (partsS, .tuple [cmdP (dif r (dropC 93 r))], (dropC 93 r).drop 1) := rfl
theorem tok_34 {ps : List PyData} {a : Nat} (h : fillF F 34 [] [] r = .ok (ps, a :: e)) : tokF F (34 :: r) = .ok (partsS, .tuple ps, e) := by
 show (match fillF F 34 [] [] r with | .error m => _ | .ok (_, []) => _ | .ok (ps, _ :: e) => _) = _
 rw [h]
theorem tok_123 {a : List Nat} (h : brcF F 1 [] r = some (a, e)) : tokF F (123 :: r) = .ok (textS, .str ⟨a.toArray⟩, e) := by
 show (match brcF F 1 [] r with | none => _ | some (a, e) => _) = _
 rw [h]
end
theorem opg_no {a : Nat} (h : opg a = true) : a ≠ 91 /\ a ≠ 92 := by
 constructor <;> (rintro rfl; exact Bool.noConfusion h)
theorem tok_loc {F c : Nat} {r : List Nat} {s v : PyData} {e : List Nat} (hg : gd (c :: r) = true) (h : tokF F (c :: r) = .ok (s, v, e)) :
  ∃ y, r = y ++ e /\ Cl (c :: y) /\ ∀ e', Cut e e' -> tokF F (c :: (y ++ e')) = .ok (s, v, e') := by
 refine tok_ok (P := fun x => ∃ y, r = y ++ x.2.2 /\ Cl (c :: y) /\ ∀ e', Cut x.2.2 e' -> tokF F (c :: (y ++ e')) = .ok (x.1, x.2.1, e')) h (fun p e q hd => ?_) (fun q => ?_) (fun ps a e q hd => ?_) (fun a e q hd => ?_) (fun q => ?_) fun fw h => ?_
 ·subst q
  obtain ⟨y, hy, hE, hl⟩ := (locs F).1 _ _ _ hd
  refine ⟨y, hy, ?_, fun e' he => tok_36 (hl e' he.mays.cp)⟩
  rcases hE with ⟨w, z, hz, hw⟩ | hs
  ·rw [hy] at hg hw
   exact cl_end' (x := 36 :: y) (y := 36 :: w) (by rcases hz with rfl | rfl <;> decide) hg (congrArg (36 :: ·) hw)
  ·exact (cl_no (y := [36]) hg (fun a ha => by rcases List.mem_singleton.mp ha with rfl; decide)).app (cl_run (gd_tail hg) hy hs)
 ·subst q
  have hbr : ∃ t, dropC 93 r = 93 :: t := by
   rcases gd_br hg with ⟨r', rfl⟩ | ⟨r', rfl⟩ <;> exact ⟨r', rfl⟩
  obtain ⟨t, ht⟩ := hbr
  obtain ⟨x, rfl, hl⟩ := dropC_loc ht
  rw [ht, dif_append]
  refine ⟨x ++ [93], (app1 ..).symm, cl_end (by decide) (by decide) (y := 91 :: x) hg, fun e' _ => ?_⟩
  rw [app1, tok_91, hl e', dif_append]; rfl
 ·have ha := fill_head _ _ _ _ _ hd
  subst q ha
  obtain ⟨y, rfl, hl⟩ := (locs F).2 _ _ _ _ _ _ (by decide) hd
  exact ⟨y ++ [34], (app1 ..).symm, cl_end (by decide) (by decide) (y := 34 :: y) hg, fun e' _ => by rw [app1]; exact tok_34 (hl e')⟩
 ·subst q
  obtain ⟨y, rfl, hl⟩ := brc_loc _ _ _ _ hd
  exact ⟨y ++ [125], (app1 ..).symm, cl_end (by decide) (by decide) (y := 123 :: y) hg, fun e' _ => by rw [app1]; exact tok_123 (hl e')⟩
 ·refine ⟨[], rfl, cl_no (y := [c]) (e := r) hg (fun a ha => ?_), fun e' _ => by rcases q with rfl | rfl | rfl <;> rfl⟩
  rcases List.mem_singleton.mp ha with rfl
  rcases q with rfl | rfl | rfl <;> decide
 ·obtain ⟨y, rfl, hS, hl⟩ := sgn_loc hg h
  exact ⟨y, rfl, hS.elim (fun k => cl_no (y := c :: y) hg fun a ha => opg_no (k a ha)) (fun k => cl_run (y := c :: y) hg rfl k.2), fun e' he => (fw _).trans (hl e' he)⟩
noncomputable def NG (c : Nat) : Prop := blankc c = false /\ (c == 35) = false /\ c ≠ 92
theorem ng_gap {c : Nat} (h : gapc c = false) : NG c := by
 refine ⟨?_, ?_, by rintro rfl; exact Bool.noConfusion h⟩
 ·cases hb : blankc c
  ·rfl
  ·unfold blankc at hb
   rw [Bool.or_eq_true, Bool.or_eq_true, beq_iff_eq, beq_iff_eq, beq_iff_eq] at hb
   rcases hb with (rfl | rfl) | rfl <;> exact Bool.noConfusion h
 ·cases hb : c == 35
  ·rfl
  ·rw [eq_of_beq hb] at h; exact Bool.noConfusion h
theorem tok_ng {F c : Nat} {r : List Nat} {v : PyData × PyData × List Nat} (hg : gd (c :: r) = true) (h : tokF F (c :: r) = .ok v) : NG c := by
 have l : ∀ n : Nat, gapc n = false -> c = n -> NG c := fun n hn q => q ▸ ng_gap hn
 refine tok_ok (P := fun _ => NG c) h (fun _ _ q _ => l 36 rfl q) (fun q => l 91 rfl q) (fun _ _ _ q _ => l 34 rfl q) (fun _ _ q _ => l 123 rfl q) (fun q => ?_) fun _ h => ?_
 ·rcases q with q | q | q
  ·exact l 40 rfl q
  ·exact l 41 rfl q
  ·exact l 44 rfl q
 ·obtain ⟨s, w, e⟩ := v
  obtain ⟨y, -, hS, -⟩ := sgn_loc hg h
  refine ng_gap ?_
  cases hb : gapc c
  ·rfl
  rcases hS with k | k
  ·have := k c List.mem_cons_self
   unfold opg at this
   rw [hb] at this; exact Bool.noConfusion this
  ·rw [(gapc_word hb).1] at k; exact Bool.noConfusion k.1
structure Gp (g : List Nat) (c : Nat) : Prop where
 cl : Cl g
 skip : ∀ t, skipF false (g ++ c :: t) = c :: t
 head : g = [] \/ ∃ a w, g = a :: w /\ gapc a = true
theorem Cl.cons {c : Nat} {x : List Nat} (h : okc c = true) (h1 : c ≠ 91) (h2 : c ≠ 92) (hx : Cl x) : Cl (c :: x) := fun e he => by
 rw [List.cons_append]
 exact gd_cons.mpr ⟨⟨h, bsl_no h2, brk_no h1⟩, hx e he⟩
theorem Gp.row {g : List Nat} {c : Nat} (G : Gp g c) : Gp (92 :: 10 :: g) c :=
 ⟨fun e he => gd_cons.mpr ⟨⟨by decide, rfl, brk_no (by decide)⟩, gd_cons.mpr ⟨⟨by decide, rfl, brk_no (by decide)⟩, G.cl e he⟩⟩, fun t => G.skip t, .inr ⟨92, _, rfl, by decide⟩⟩
theorem Gp.rem {g m : List Nat} {c : Nat} (G : Gp g c) {w : List Nat} (hg : gd (m ++ 10 :: w) = true) (hm : ∀ w, dropL (m ++ 10 :: w) = 10 :: w) : Gp (35 :: (m ++ 10 :: g)) c := by
 refine ⟨Cl.cons (by decide) (by decide) (by decide) ?_, fun t => ?_, .inr ⟨35, _, rfl, by decide⟩⟩
 ·rw [show m ++ 10 :: g = m ++ [10] ++ g from (List.append_assoc m [10] g).symm]
  exact (cl_end (by decide) (by decide) hg).app G.cl
 ·rw [List.cons_append, skip_rem, List.append_assoc]
  show skipF false (dropL (m ++ 10 :: (g ++ c :: t))) = _
  rw [hm, skip_blank rfl]
  exact G.skip t
theorem blank_gap {a : Nat} (h : blankc a = true) : gapc a = true /\ a ≠ 91 /\ a ≠ 92 := by
 unfold blankc at h
 rw [Bool.or_eq_true, Bool.or_eq_true, beq_iff_eq, beq_iff_eq, beq_iff_eq] at h
 rcases h with (rfl | rfl) | rfl <;> decide
theorem Gp.blank {g : List Nat} {a c : Nat} (G : Gp g c) (ha : okc a = true) (hb : blankc a = true) : Gp (a :: g) c := by
 refine ⟨Cl.cons ha (blank_gap hb).2.1 (blank_gap hb).2.2 G.cl, fun t => ?_, .inr ⟨a, g, rfl, (blank_gap hb).1⟩⟩
 rw [List.cons_append, skip_blank hb]
 exact G.skip t
noncomputable def GpOf (W : List Nat) (c : Nat) (t : List Nat) : Prop := ∃ g, W = g ++ c :: t /\ Gp g c
theorem skip_loc (k : Nat) : ∀ (W : List Nat) {c : Nat} {t : List Nat}, W.length <= k -> gd W = true -> skipF false W = c :: t -> NG c -> GpOf W c t := by
 induction k with
 | zero => exact fun W _ _ hk _ h _ => by cases W with
  | nil => cases h
  | cons a r => exact absurd hk (Nat.not_succ_le_zero _)
 | succ k ih =>
 intro W c t hk hg h hc
 cases W with
 | nil => cases h
 | cons a r =>
 have hk' := Nat.le_of_succ_le_succ hk
 cases hb : blankc a
 ·by_cases h3 : a = 92 /\ ∃ r', r = 10 :: r'
  ·obtain ⟨rfl, r', rfl⟩ := h3
   rw [skip_row] at h
   obtain ⟨g, e, G⟩ := ih r' (Nat.le_of_succ_le hk') (gd_tail (gd_tail hg)) h hc
   exact ⟨92 :: 10 :: g, by rw [e]; rfl, G.row⟩
  ·by_cases h2 : (a == 35) = true
   ·obtain rfl := eq_of_beq h2
    rw [skip_rem] at h
    cases hd : dropL r with
    | nil => rw [hd] at h; cases h
    | cons x r' =>
     obtain rfl := dropC_head hd
     obtain ⟨m, rfl, hm⟩ := dropC_loc hd
     rw [hd, skip_blank rfl] at h
     have hgr := gd_tail hg
     obtain ⟨g, e, G⟩ := ih r' (by rw [List.length_append] at hk'; exact Nat.le_trans (Nat.le_succ _) (Nat.le_trans (Nat.le_add_left _ _) hk')) (gd_tail (gd_suf (List.suffix_append m _) hgr)) h hc
     exact ⟨35 :: (m ++ 10 :: g), by rw [e, List.cons_append, List.append_assoc]; rfl, G.rem hgr hm⟩
   ·have h2 := Bool.eq_false_iff.mpr h2
    rw [skip_stay hb h2 h3] at h
    obtain ⟨rfl, rfl⟩ := List.cons.inj h
    exact ⟨[], rfl, Cl.nil, fun t => skip_stay hc.1 hc.2.1 (fun q => hc.2.2 q.1), .inl rfl⟩
 ·rw [skip_blank hb] at h
  obtain ⟨g, e, G⟩ := ih r hk' (gd_tail hg) h hc
  exact ⟨a :: g, by rw [e]; rfl, G.blank (gd_ok hg) hb⟩
structure Chk where
 g : List Nat
 c : Nat
 y : List Nat
 s : PyData
 v : PyData
noncomputable def Chk.x (h : Chk) : List Nat := h.c :: h.y
noncomputable def cat : List Chk -> List Nat -> List Nat
 | [], z => z
 | h :: l, z => h.g ++ (h.x ++ cat l z)
noncomputable def toks : List Chk -> List Nat -> List Tk
 | [], _ => []
 | h :: l, z => (h.s, h.v, h.x ++ cat l z, cat l z) :: toks l z
structure ChOk (F : Nat) (h : Chk) (e : List Nat) : Prop where
 gp : Gp h.g h.c
 ng : NG h.c
 cl : Cl h.x
 here : tokF F (h.x ++ e) = .ok (h.s, h.v, e)
 loc : ∀ e', Cut e e' -> tokF F (h.x ++ e') = .ok (h.s, h.v, e')
noncomputable def Al (F : Nat) : List Chk -> List Nat -> Prop
 | [], z => skipF false z = []
 | h :: l, z => ChOk F h (cat l z) /\ Al F l z
theorem lex_dec {F : Nat} : ∀ (n : Nat) (W : List Nat) (ts : List Tk), gd W = true -> lexF F n (skipF false W) = .ok ts -> ∃ l z, W = cat l z /\ ts = toks l z /\ Al F l z
 | 0, _, _, _, h => (by cases h)
 | n + 1, W, ts, hg, h => by
  cases hu : skipF false W with
  | nil =>
   rw [hu] at h
   cases h
   exact ⟨[], W, rfl, rfl, hu⟩
  | cons c r =>
   have hsk := skip_suf false W
   rw [hu] at h hsk
   rw [lex_step] at h
   have hgu := gd_suf hsk hg
   cases ht : tokF F (c :: r) with
   | error m => rw [ht] at h; cases h
   | ok v =>
    obtain ⟨s, v, e⟩ := v
    rw [ht] at h
    dsimp only at h
    cases hl : lexF F n (skipF false e) with
    | error m => rw [hl] at h; cases h
    | ok ts' =>
     rw [hl] at h
     cases h
     have he := tok_suf hgu ht
     obtain ⟨l, z, h1, h2, h3⟩ := lex_dec n e ts' (gd_suf he (gd_tail hgu)) hl
     have hng := tok_ng hgu ht
     obtain ⟨g, hW, G⟩ := skip_loc W.length W (Nat.le_refl _) hg hu hng
     obtain ⟨y, hy, hcl, hloc⟩ := tok_loc hgu ht
     subst h1 h2
     refine ⟨⟨g, c, y, s, v⟩ :: l, z, ?_, ?_, ⟨G, hng, hcl, ?_, hloc⟩, h3⟩
     ·rw [hW, hy]; rfl
     ·show _ :: _ = (s, v, c :: y ++ cat l z, cat l z) :: toks l z
      rw [List.cons_append, <- hy]
     ·show tokF F (c :: y ++ cat l z) = _
      rw [List.cons_append, <- hy]; exact ht
noncomputable def Re (F : Nat) : List Chk -> List Nat -> Prop
 | [], z => skipF false z = []
 | h :: l, z => (∀ t, skipF false (h.g ++ h.c :: t) = h.c :: t) /\ tokF F (h.x ++ cat l z) = .ok (h.s, h.v, cat l z) /\ Re F l z
theorem lex_re {F : Nat} : ∀ (l : List Chk) (z : List Nat) (n : Nat), Re F l z -> l.length < n -> lexF F n (skipF false (cat l z)) = .ok (toks l z)
 | _, _, 0, _, h => absurd h (Nat.not_lt_zero _)
 | [], z, n + 1, h, _ => by
  have h : skipF false z = [] := h
  show lexF F (n + 1) (skipF false z) = _
  rw [h]; rfl
 | h :: l, z, n + 1, ⟨h1, h2, h3⟩, hl => by
  have e : skipF false (cat (h :: l) z) = h.c :: (h.y ++ cat l z) := h1 _
  have h2 : tokF F (h.c :: (h.y ++ cat l z)) = .ok (h.s, h.v, cat l z) := h2
  rw [e, lex_step, h2]
  dsimp only
  rw [lex_re l z n h3 (by simpa using hl)]
  rfl
theorem cat_cl {F : Nat} : ∀ (l : List Chk) {z z' : List Nat}, Al F l z -> gd z' = true -> gd (cat l z') = true
 | [], _, _, _, h => h
 | a :: l, z, z', ⟨h1, h2⟩, h => h1.gp.cl _ (h1.cl _ (cat_cl l h2 h))
theorem tok_wordc {F c : Nat} {r : List Nat} (h : wordc c = true) : tokF F (c :: r) = sgnF c r := by
 have no : ∀ x : Nat, wordc x = false -> (c == x) = false := fun x hx => by
  cases q : c == x
  ·rfl
  ·have : c = x := by simpa using q
   subst this; rw [h] at hx; cases hx
 rw [tok_step, no 36 rfl, no 91 rfl, no 34 rfl, no 123 rfl, no 40 rfl, no 41 rfl, no 44 rfl]
 rfl
theorem tok_op {F c : Nat} {r : List Nat} {s v : PyData} {e : List Nat} (h : isop (dif (c :: r) (nmF false false (c :: r))) = true) (ht : tokF F (c :: r) = .ok (s, v, e)) : e = nmF false false (c :: r) := by
 obtain ⟨y, hy⟩ := nm_suf false false (c :: r)
 have hd : dif (c :: r) (nmF false false (c :: r)) = y := by
  conv => lhs; arg 1; rw [<- hy]
  exact dif_append _ _
 rw [hd] at h
 have hall : ([[101, 113], [110, 101], [105, 110], [110, 105], [108, 116], [108, 101], [103, 116], [103, 101]] : List (List Nat)).all (fun t => match t with | a :: _ => wordc a && !figc 10 a | [] => false) = true := by decide
 have := List.all_eq_true.mp hall y (List.contains_iff_mem.mp h)
 cases y with
 | nil => cases this
 | cons a y =>
  rw [List.cons_append] at hy
  injection hy with ha _
  subst ha
  simp only [Bool.and_eq_true, Bool.not_eq_true'] at this
  rw [tok_wordc this.1] at ht
  unfold sgnF at ht
  rw [op_word this.1, this.2, this.1] at ht
  cases ht; rfl
theorem cut_first {F : Nat} {k : Chk} {w w' : List Nat} (h : ChOk F k w) (hw : w' <+: w) : Cut (k.g ++ (k.x ++ w)) (k.g ++ (k.x ++ w')) := by
 rcases h.gp.head with hg | ⟨a, g, hg, ha⟩
 ·rw [hg, List.nil_append, List.nil_append]
  obtain ⟨z, rfl⟩ := hw
  refine .inr ⟨⟨z, by rw [List.append_assoc]⟩, fun ho => ?_⟩
  have := tok_op ho h.here
  have hd : dif (k.x ++ (w' ++ z)) (nmF false false (k.x ++ (w' ++ z))) = k.x := by
   have : nmF false false (k.x ++ (w' ++ z)) = w' ++ z := this.symm
   rw [this, dif_append]
  rw [hd]
  exact List.prefix_append _ _
 ·exact .inl (.inr ⟨a, _, by rw [hg]; rfl, ha⟩)
theorem cat_app : ∀ (a b : List Chk) (z : List Nat), cat (a ++ b) z = cat a (cat b z)
 | [], _, _ => rfl
 | h :: a, b, z => by
  show h.g ++ (h.x ++ cat (a ++ b) z) = _
  rw [cat_app a b z]; rfl
theorem cat_nil : ∀ (a : List Chk) (z : List Nat), cat a z = cat a [] ++ z
 | [], _ => rfl
 | h :: a, z => by
  show h.g ++ (h.x ++ cat a z) = (h.g ++ (h.x ++ cat a [])) ++ z
  rw [cat_nil a z]; simp
theorem toks_app : ∀ (a b : List Chk) (z : List Nat), toks (a ++ b) z = toks a (cat b z) ++ toks b z
 | [], _, _ => rfl
 | h :: a, b, z => by
  show (h.s, h.v, h.x ++ cat (a ++ b) z, cat (a ++ b) z) :: toks (a ++ b) z = _
  rw [toks_app a b z, cat_app]; rfl
theorem toks_len : ∀ (a : List Chk) (z : List Nat), (toks a z).length = a.length
 | [], _ => rfl
 | h :: a, z => congrArg (· + 1) (toks_len a z)
theorem re_pre {F : Nat} {b : List Chk} {z : List Nat} : ∀ a : List Chk, Al F (a ++ b) z -> Re F a []
 | [], _ => rfl
 | h :: a, ⟨h1, h2⟩ => by
  refine ⟨h1.gp.skip, h1.loc _ ?_, re_pre a h2⟩
  cases a with
  | nil => exact .inl (.inl rfl)
  | cons k a =>
   refine cut_first h2.1 ?_
   show cat a [] <+: cat (a ++ b) z
   rw [cat_app, cat_nil a (cat b z)]
   exact List.prefix_append _ _
theorem pos_same {T T' u u' : List Nat} {n : Nat} (h : T.length = T'.length + n) (hu : u.length = u'.length + n) : pos T u = pos T' u' := by
 unfold pos; lia
theorem toks_pre {T T' w : List Nat} (h : T.length = T'.length + w.length) : ∀ a : List Chk, (toks a w).map (tokD T) = (toks a []).map (tokD T')
 | [] => rfl
 | k :: a => by
  have e1 : pos T (cat a w) = pos T' (cat a []) := pos_same h (by rw [cat_nil, List.length_append])
  have e2 : pos T (k.x ++ cat a w) = pos T' (k.x ++ cat a []) := pos_same h (by rw [cat_nil, List.length_append, List.length_append, List.length_append]; lia)
  show tokD T (k.s, k.v, k.x ++ cat a w, cat a w) :: (toks a w).map (tokD T) = tokD T' (k.s, k.v, k.x ++ cat a [], cat a []) :: (toks a []).map (tokD T')
  rw [toks_pre h a]
  unfold tokD
  rw [e1, e2]
theorem al_split {F : Nat} {b : List Chk} {z : List Nat} : ∀ a : List Chk, Al F (a ++ b) z -> Al F b z
 | [], h => h
 | _ :: a, h => al_split a h.2
theorem al_take {F : Nat} {b : List Chk} {z : List Nat} : ∀ a : List Chk, Al F (a ++ b) z -> gd (cat a []) = true
 | [], _ => rfl
 | k :: a, h => h.1.gp.cl _ (h.1.cl _ (al_take a h.2))
noncomputable def gapL : List (List Nat) := [[32], [10], [92, 10], [35, 32, 41, 32, 34, 10], [9, 32], [35, 10, 35, 10], [92, 10, 9], [32, 92, 10]]
theorem gapL_ok {g : List Nat} (h : g ∈ gapL) {c : Nat} (hc : NG c) : (∀ t, skipF false (g ++ c :: t) = c :: t) /\ Cl g /\ g.count 36 = 0 /\ g.length <= 6 /\ ∃ a w, g = a :: w /\ gapc a = true := by
 have st : ∀ t, skipF false (c :: t) = c :: t := fun t => skip_stay hc.1 hc.2.1 (fun q => hc.2.2 q.1)
 unfold gapL at h
 simp only [List.mem_cons, List.not_mem_nil, or_false] at h
 rcases h with rfl | rfl | rfl | rfl | rfl | rfl | rfl | rfl
 all_goals exact ⟨st, fun e he => he, rfl, by decide, _, _, rfl, rfl⟩
noncomputable def reg (G : Nat -> List Nat) : Nat -> List Chk -> List Chk
 | _, [] => []
 | k, h :: l => ⟨G k, h.c, h.y, h.s, h.v⟩ :: reg G (k + 1) l
theorem reg_re {F : Nat} {G : Nat -> List Nat} (hG : ∀ k, G k ∈ gapL) {z : List Nat} : ∀ (l : List Chk) (k : Nat), Al F l z -> Re F (reg G k l) []
 | [], _, _ => rfl
 | h :: l, k, ⟨h1, h2⟩ => by
  obtain ⟨g1, -⟩ := gapL_ok (hG k) h1.ng
  refine ⟨g1, h1.loc _ (.inl ?_), reg_re hG l (k + 1) h2⟩
  cases l with
  | nil => exact .inl rfl
  | cons a l =>
   obtain ⟨-, -, -, -, x, w, hx, hg⟩ := gapL_ok (hG (k + 1)) h2.1.ng
   refine .inr ⟨x, w ++ ((⟨G (k + 1), a.c, a.y, a.s, a.v⟩ : Chk).x ++ cat (reg G (k + 2) l) []), ?_, hg⟩
   show G (k + 1) ++ _ = _
   rw [hx]; rfl
theorem reg_len {G : Nat -> List Nat} : ∀ (l : List Chk) (k : Nat), (reg G k l).length = l.length
 | [], _ => rfl
 | _ :: l, k => congrArg (· + 1) (reg_len l (k + 1))
theorem reg_facts {F : Nat} {G : Nat -> List Nat} (hG : ∀ k, G k ∈ gapL) {z : List Nat} : ∀ (l : List Chk) (k : Nat), Al F l z -> gd (cat (reg G k l) []) = true /\ (cat (reg G k l) []).count 36 <= (cat l z).count 36 /\ (cat (reg G k l) []).length <= 7 * (cat l z).length
 | [], _, _ => ⟨rfl, Nat.zero_le _, Nat.zero_le _⟩
 | h :: l, k, ⟨h1, h2⟩ => by
  obtain ⟨i1, i2, i3⟩ := reg_facts hG l (k + 1) h2
  obtain ⟨-, g2, g3, g4, -⟩ := gapL_ok (hG k) h1.ng
  have e : cat (reg G k (h :: l)) [] = G k ++ (h.x ++ cat (reg G (k + 1) l) []) := rfl
  have e2 : cat (h :: l) z = h.g ++ (h.x ++ cat l z) := rfl
  have hx : h.x.length = h.y.length + 1 := rfl
  rw [e, e2]
  refine ⟨g2 _ (h1.cl _ i1), ?_, ?_⟩
  ·simp only [List.count_append]; lia
  ·simp only [List.length_append]; lia
theorem brc_lo (f : Nat) : ∀ (D : Nat) (acc u : List Nat) {a e : List Nat}, lo acc = true -> gd u = true -> brcF f D acc u = some (a, e) -> lo a = true := by
 induction f with
 | zero => exact fun _ _ _ _ _ _ _ h => nomatch (show (none : BR) = some _ from h)
 | succ f H =>
  intro D acc u a e ha hg h
  cases u with
  | nil => exact nomatch (show (none : BR) = some _ from h)
  | cons c r =>
   have hg' := gd_tail hg
   exact brc_inv h (fun D' b hb _ h => H _ _ _ (lo_app ha (hb (gd_lt hg))) hg' h) (fun _ _ h => by cases h; exact ha) (fun h => nomatch h) (fun r' q _ h => H _ _ _ (lo_app ha rfl) (gd_suf (q ▸ (row_suf r').trans (List.suffix_cons _ _)) hg') h)
    fun y r' q _ h => H _ _ _ (lo_app ha (lo_app (a := [92]) rfl (lo1 (gd_lt (q ▸ hg'))))) (gd_suf (q ▸ List.suffix_cons y r') hg') h
theorem num_lw {n : Nat} {c : Nat} {r : List Nat} {s v : PyData} {e : List Nat} (hg : gd (c :: r) = true) (h : numF (c :: r) = .ok (s, v, e)) : Lw n s /\ Lw n v :=
 num_inv h (fun h => nomatch h) (fun _ _ _ _ _ _ _ _ h => by cases h; exact ⟨Lw.str rfl, Lw.str (lo_take (lo_gd hg))⟩) fun _ _ _ _ _ _ _ _ h => by cases h; exact ⟨Lw.str rfl, Lw.int⟩
theorem tok_lw {F c : Nat} {r : List Nat} {s v : PyData} {e : List Nat} (hg : gd (c :: r) = true) (h : tokF F (c :: r) = .ok (s, v, e)) : Lw (2 * (c :: r).count 36 + 4) s /\ Lw (2 * (c :: r).count 36 + 4) v := by
 have hg' := gd_tail hg
 have hlo := lo_gd hg
 have hc := lo1 (gd_lt hg)
 have hcr : 2 * r.count 36 <= 2 * (c :: r).count 36 := cnt2 (List.suffix_cons c r) (Nat.le_refl _)
 refine tok_ok (P := fun x => Lw (2 * (c :: r).count 36 + 4) x.1 /\ Lw (2 * (c :: r).count 36 + 4) x.2.1) h (fun p e _ hd => ?_) (fun _ => ⟨Lw.str rfl, (Lw.tup (.cons (lw_cmd (n := 0) (lo_take (lo_gd hg'))) .nil)).mono (by lia)⟩) (fun ps a e _ hd => ?_)
  (fun a e _ hd => ⟨Lw.str rfl, Lw.str (brc_lo _ _ _ _ rfl hg' hd)⟩) (fun _ => ⟨Lw.str hc, Lw.str hc⟩) fun _ h => sgn_inv h (fun _ _ h => nomatch h) (fun ho _ h => ?_) (fun w q _ hn h => ?_) fun _ _ _ h => ?_
 ·obtain ⟨k1, k2⟩ := (lw_both F).1 _ _ _ hg' hd
  exact ⟨Lw.str rfl, (Lw.tup (.cons (lw_var k1 k2) .nil)).mono (Nat.add_le_add_right hcr 4)⟩
 ·exact ⟨Lw.str rfl, (Lw.tup ((lw_both F).2 _ _ _ _ _ _ (2 * r.count 36) hg' LwA.nil rfl (Nat.le_refl _) hd)).mono (by lia)⟩
 ·obtain ⟨y, x, hO, hx, -, -⟩ := op_loc (c := c) (r := r) rfl (fun q => ho (by rw [q]; rfl))
  rw [hO] at h
  cases h
  refine ⟨Lw.str rfl, Lw.str ?_⟩
  rw [hx, <- List.cons_append] at hlo
  unfold lo at hlo ⊢
  rw [List.all_append, Bool.and_eq_true] at hlo
  exact hlo.1
 ·cases h; exact num_lw hg hn
 ·cases h
  refine ⟨?_, Lw.str (lo_take hlo)⟩
  split <;> exact Lw.str rfl
theorem lex_lw {F N : Nat} {T : List Nat} : ∀ (n : Nat) (u : List Nat) (ts : List Tk), gd u = true -> u.count 36 <= N -> lexF F n u = .ok ts -> LwA (2 * N + 5) (ts.map (tokD T))
 | 0, _, _, _, _, h => (by cases h)
 | n + 1, [], ts, _, _, h => (by cases h; exact LwA.nil)
 | n + 1, c :: r, ts, hg, hN, h => by
  rw [lex_step] at h
  cases hx : tokF F (c :: r) with
  | error m => rw [hx] at h; cases h
  | ok v =>
   obtain ⟨s, v, e⟩ := v
   rw [hx] at h
   have he := tok_suf hg hx
   have hsk := (skip_suf false e).trans he
   dsimp only at h
   cases hl : lexF F n (skipF false e) with
   | error m => rw [hl] at h; cases h
   | ok ts' =>
    rw [hl] at h
    cases h
    obtain ⟨k1, k2⟩ := tok_lw hg hx
    have := lex_lw (T := T) n _ ts' (gd_suf hsk (gd_tail hg)) (Nat.le_trans (cnt_suf (hsk.trans (List.suffix_cons c r))) hN) hl
    exact LwA.cons (Lw.tup (.cons (k1.mono (by lia)) (.cons (k2.mono (by lia)) (.cons Lw.int (.cons Lw.int .nil))))) this
theorem lexR_lw {F N n : Nat} {T : List Nat} {ts : List Tk} (hg : gd T = true) (hN : T.count 36 <= N) (h : lexF F n (skipF false T) = .ok ts) : Lw (2 * N + 6) (.list (ts.map (tokD T) ++ [endD T])) :=
 Lw.list (LwA.app (.cons (Lw.tup (.cons (Lw.str rfl) (.cons (Lw.str rfl) (.cons Lw.int (.cons Lw.int .nil))))) .nil) (lex_lw n _ ts (gd_suf (skip_suf false T) hg) (Nat.le_trans (cnt_suf (skip_suf false T)) hN) h))
noncomputable def gapOf (gaps : Int) (k : Nat) : List Nat := gapL.getD ((gaps.fdiv (8 ^ (k % 12))).fmod 8).toNat [32]
theorem gapOf_mem (gaps : Int) (k : Nat) : gapOf gaps k ∈ gapL := by
 unfold gapOf
 rw [List.getD_eq_getElem?_getD]
 have h1 := Int.fmod_lt_of_pos (gaps.fdiv (8 ^ (k % 12))) (b := 8) (by decide)
 have h2 : ((gaps.fdiv (8 ^ (k % 12))).fmod 8).toNat < gapL.length := (Int.toNat_lt (Int.fmod_nonneg_of_pos _ (by decide))).mpr h1
 rw [List.getElem?_eq_getElem h2]
 exact List.getElem_mem h2
section
variable {K : Nat} {cf : Cfn} {σ : Sg}
noncomputable abbrev gapE : Ex := .bin .fmod (.bin .fdiv (.v 2) (.bin .pow (.int 8) (.bin .fmod (.v 5) (.int 12)))) (.int 8)
noncomputable abbrev menuE : Ex := .tup (.cons (.str ⟨#[32]⟩) (.cons (.str ⟨#[10]⟩) (.cons (.str ⟨#[92, 10]⟩) (.cons (.str ⟨#[35, 32, 41, 32, 34, 10]⟩) (.cons (.str ⟨#[9, 32]⟩) (.cons (.str ⟨#[35, 10, 35, 10]⟩) (.cons (.str ⟨#[92, 10, 9]⟩) (.cons (.str ⟨#[32, 92, 10]⟩) .nil))))))))
theorem e_gap {gaps : Int} {k : Nat} (h2 : σ.get 2 = .ok (.d (.int gaps))) (h5 : σ.get 5 = .ok (.d (.int k))) : ev cf σ gapE = .ok (.d (.int ((gaps.fdiv (8 ^ (k % 12))).fmod 8))) := by
 have hj : k % 12 < 12 := Nat.mod_lt _ (by decide)
 have hf : (k : Int).fmod 12 = ((k % 12 : Nat) : Int) := by
  rw [Int.fmod_eq_emod_of_nonneg _ (by decide)]; rfl
 have e1 : op2 .fmod (.int k) (.int 12) = .ok (.int ((k % 12 : Nat) : Int)) := by rw [op_fmod (by decide), hf]
 have e2 : op2 .pow (.int 8) (.int ((k % 12 : Nat) : Int)) = .ok (.int (8 ^ (k % 12))) := by rw [op_pow ⟨rfl, by lia, by lia⟩, Int.toNat_natCast]
 have hp : ∀ j : Nat, j < 12 -> 0 < (8 : Int) ^ j /\ (8 : Int) ^ j < 2 ^ 62 := by decide
 have e3 : op2 .fdiv (.int gaps) (.int (8 ^ (k % 12))) = .ok (.int (gaps.fdiv (8 ^ (k % 12)))) := op_fdiv (hp _ hj)
 have e4 : ∀ a : Int, op2 .fmod (.int a) (.int 8) = .ok (.int (a.fmod 8)) := fun a => op_fmod (by decide)
 exact e_op2 (e_op2 h2 (e_op2 rfl (e_op2 h5 rfl e1) e2) e3) rfl (e4 _)
theorem p_idxT {l : List PyData} {k : Nat} {x : PyData} (hk : okN (k : Int) = true) (h : l[k]? = some x) : idxD (.tuple l) (.int k) = .ok x := by
 unfold idxD
 rw [int_eq, rb]
 unfold idxI
 exact item_ok hk (by rw [Int.toNat_natCast]; exact h)
theorem e_idxT {a b : Ex} {l : List PyData} {k : Int} {x : PyData} (ha : ev cf σ a = .ok (.d (.tuple l))) (hb : ev cf σ b = .ok (.d (.int k))) (hi : idxD (.tuple l) (.int k) = .ok x) : ev cf σ (.idx a b) = .ok (.d x) := e_ix ha hb hi
theorem e_menu {gaps : Int} {k : Nat} (h2 : σ.get 2 = .ok (.d (.int gaps))) (h5 : σ.get 5 = .ok (.d (.int k))) : ev cf σ (.idx menuE gapE) = .ok (.d (.str ⟨(gapOf gaps k).toArray⟩)) := by
 have h1 := Int.fmod_lt_of_pos (gaps.fdiv (8 ^ (k % 12))) (b := 8) (by decide)
 have h3 := Int.fmod_nonneg_of_pos (gaps.fdiv (8 ^ (k % 12))) (b := 8) (by decide)
 have hg := e_gap (cf := cf) h2 h5
 unfold gapOf
 generalize (gaps.fdiv (8 ^ (k % 12))).fmod 8 = i at h1 h3 hg
 obtain ⟨j, rfl⟩ := Int.eq_ofNat_of_zero_le h3
 have hj : j < gapL.length := by show j < 8; lia
 refine e_idxT (l := gapL.map fun x => .str ⟨x.toArray⟩) rfl hg (p_idxT (okN_nat (by lia)) ?_)
 rw [List.getElem?_map, Int.toNat_natCast, List.getD_eq_getElem?_getD, List.getElem?_eq_getElem hj]
 rfl
theorem p_idxL {l : List PyData} {k : Nat} {x : PyData} (hk : okN (k : Int) = true) (h : l[k]? = some x) : idxD (.list l) (.int k) = .ok x := by
 unfold idxD
 rw [int_eq, rb]
 unfold idxI
 exact item_ok hk (by rw [Int.toNat_natCast]; exact h)
theorem e_idxL {a b : Ex} {l : List PyData} {k : Int} {x : PyData} (ha : ev cf σ a = .ok (.d (.list l))) (hb : ev cf σ b = .ok (.d (.int k))) (hi : idxD (.list l) (.int k) = .ok x) : ev cf σ (.idx a b) = .ok (.d x) := e_ix ha hb hi
end
section
variable {K d : Nat} {cf : Cfn} {σ σ' : Sg}
theorem rng_ok {n : Nat} (hn : n <= 4000) : (okN (n : Int) && decide ((n : Int) <= 4096)) = true := by
 have h1 : (n : Int) <= 4096 := by lia
 rw [okN_nat (by lia), decide_eq_true h1]; rfl
theorem x_forR0 {i : Nat} {n : Int} {e : Ex} {b : Cm} (h : ev cf σ e = .ok (.d (.int n))) (hc : (okN n && decide (n <= 4096)) = true) : exc cf K (.forR i e b) σ = loopL i (exc cf K b) (rangeD n) σ := by
 show (ev cf σ e).bind _ = _
 rw [h]
 show (if _ then _ else _) = _
 rw [if_pos hc]
theorem rng_list (n : Nat) : rangeD (n : Int) = (List.range' 0 n).map fun (k : Nat) => PyData.int (k : Int) := by
 unfold rangeD
 rw [Int.toNat_natCast, List.range_eq_range']
theorem x_forR {i n : Nat} {e : Ex} {b : Cm} (h : ev cf σ e = .ok (.d (.int (n : Int)))) (hn : n <= 4000) : exc cf K (.forR i e b) σ = loopL i (exc cf K b) ((List.range' 0 n).map fun (k : Nat) => PyData.int (k : Int)) σ := by
 rw [x_forR0 h (rng_ok hn), rng_list]
theorem l_next {i : Nat} {b : Sg -> Rs Out} {x : PyData} {l : List PyData} (h : b (σ.put i x) = .ok (.next σ')) : loopL i b (x :: l) σ = loopL i b l σ' := by
 show (b (σ.put i x)).bind _ = _
 rw [h]; rfl
theorem l_cont {i : Nat} {b : Sg -> Rs Out} {x : PyData} {l : List PyData} (h : b (σ.put i x) = .ok (.cont σ')) : loopL i b (x :: l) σ = loopL i b l σ' := by
 show (b (σ.put i x)).bind _ = _
 rw [h]; rfl
theorem e_lenL {a : Ex} {l : List PyData} (h : ev cf σ a = .ok (.d (.list l))) (hl : l.length <= 100000) : ev cf σ (.bi .len a) = .ok (.d (.int l.length)) := by
 show (ev cf σ a).bind _ = _
 rw [h]
 show ((if l.length <= big then Rs.ok (PyData.int l.length) else .stuck) : Rs PyData).bind _ = _
 rw [if_pos (Nat.le_trans hl (by decide))]; rfl
theorem x_retTPush {a e : Ex} {xs : List PyData} {x y : PyData} (ho : σ.own = some xs) (ha : ev cf σ a = .ok (.d y)) (h : ev cf σ e = .ok (.d x)) (hl : xs.length <= 100000) : exc cf K (.retTPush a e) σ = .ok (.ret (.d (.tuple [y, .list (xs ++ [x])]))) := by
 show Rs.opt σ.own _ = _
 rw [ho]
 show (ev cf σ a).bind _ = _
 rw [ha]
 show (ev cf σ e).bind _ = _
 rw [h]
 show (if _ then _ else _) = _
 rw [if_pos (Nat.lt_of_le_of_lt hl (by decide))]
noncomputable abbrev B53 : Cm := .seq (.setT [6, 7, 8, 9] (.idx (.v 1) (.v 5)))
 (.seq (.set 3 (.bin .add (.v 3) (.idx menuE gapE)))
 (.seq (.push (.tup (.cons (.v 6) (.cons (.v 7) (.cons (.bi .len (.v 3)) (.cons (.bin .sub (.bin .add (.bi .len (.v 3)) (.v 9)) (.v 8)) .nil))))))
 (.set 3 (.bin .add (.v 3) (.slSS (.v 0) (.v 8) (.v 9))))))
noncomputable def S53 (T : List Nat) (D : List PyData) (gaps : Int) (O : List Nat) (P : List PyData) (x5 x6 x7 x8 x9 : Option PyData) : Sg :=
 ⟨[some (.str (mkS T)), some (.list D), some (.int gaps), some (.str (mkS O)), none, x5, x6, x7, x8, x9], some P⟩
theorem cut_tok {T W O g x r e : List Nat} {s v : PyData} (hW : W = O ++ (g ++ (x ++ r))) :
  PyData.tuple [s, v, .int ((O ++ g).length : Int), .int (((O ++ g).length : Int) + pos T e - pos T (x ++ e))] = tokD W (s, v, x ++ r, r) := by
 subst hW
 have e1 : ((O ++ g).length : Int) = pos (O ++ (g ++ (x ++ r))) (x ++ r) := by
  unfold pos; simp only [List.length_append]; lia
 have e2 : ((O ++ g).length : Int) + pos T e - pos T (x ++ e) = pos (O ++ (g ++ (x ++ r))) r := by
  unfold pos; simp only [List.length_append]; lia
 rw [e2, e1]; rfl
theorem L53 {T : List Nat} {D : List PyData} {gaps : Int} {z W : List Nat} (hf : Fit T) (hW : W.length <= 4000) : ∀ (b : List Chk) (k : Nat) (O : List Nat) (P : List PyData) (x5 x6 x7 x8 x9 : Option PyData),
  cat b z <:+ T -> D.drop k = (toks b z).map (tokD T) ++ [endD T] -> W = O ++ cat (reg (gapOf gaps) k b) [] -> k + b.length <= 4000 -> P.length + b.length <= 9000 ->
  ∃ y5 y6 y7 y8 y9, loopL 5 (exc cf K B53) ((List.range' k b.length).map fun (k : Nat) => PyData.int (k : Int)) (S53 T D gaps O P x5 x6 x7 x8 x9) =
   .ok (.next (S53 T D gaps W (P ++ (toks (reg (gapOf gaps) k b) []).map (tokD W)) y5 y6 y7 y8 y9))
 | [], k, O, P, x5, x6, x7, x8, x9, _, _, h, _, _ => by
  refine ⟨x5, x6, x7, x8, x9, ?_⟩
  have h : W = O ++ [] := h
  rw [List.append_nil] at h
  subst h
  show Rs.ok (Out.next _) = .ok (.next (S53 T D gaps W (P ++ []) x5 x6 x7 x8 x9))
  rw [List.append_nil]
 | h :: b, k, O, P, x5, x6, x7, x8, x9, hs, hD, hw, hk, hP => by
  have hs : h.g ++ (h.x ++ cat b z) <:+ T := hs
  have hu : h.x ++ cat b z <:+ T := (List.suffix_append _ _).trans hs
  have hD1 : D[k]? = some (tokD T (h.s, h.v, h.x ++ cat b z, cat b z)) := by
   have : (D.drop k)[0]? = some (tokD T (h.s, h.v, h.x ++ cat b z, cat b z)) := by rw [hD]; rfl
   rw [List.getElem?_drop] at this; exact this
  have hD2 : D.drop (k + 1) = (toks b z).map (tokD T) ++ [endD T] := by
   have : (D.drop k).drop 1 = (toks b z).map (tokD T) ++ [endD T] := by rw [hD]; rfl
   rw [List.drop_drop] at this; exact this
  have hw1 : W = O ++ (gapOf gaps k ++ (h.x ++ cat (reg (gapOf gaps) (k + 1) b) [])) := hw
  have hw2 : W = ((O ++ gapOf gaps k) ++ h.x) ++ cat (reg (gapOf gaps) (k + 1) b) [] := by rw [hw1]; simp
  have hl : W.length = O.length + ((gapOf gaps k).length + (h.x.length + (cat (reg (gapOf gaps) (k + 1) b) []).length)) := by rw [hw1]; simp only [List.length_append]
  rw [List.length_cons] at hk hP
  have hO : Fit (O ++ gapOf gaps k) := by unfold Fit; rw [List.length_append]; lia
  have ct := cut_tok (T := T) (e := cat b z) (s := h.s) (v := h.v) hw1
  have sl := p_slTo hf hu (List.suffix_append h.x (cat b z))
  rw [dif_append] at sl
  obtain ⟨y5, y6, y7, y8, y9, ih⟩ := L53 hf hW b (k + 1) ((O ++ gapOf gaps k) ++ h.x) (P ++ [tokD W (h.s, h.v, h.x ++ cat (reg (gapOf gaps) (k + 1) b) [], cat (reg (gapOf gaps) (k + 1) b) [])])
   (some (.int k)) (some h.s) (some h.v) (some (.int (pos T (h.x ++ cat b z)))) (some (.int (pos T (cat b z)))) ((List.suffix_append _ _).trans hu) hD2 hw2 (by lia) (by rw [List.length_append]; show _ + 1 + _ <= _; lia)
  refine ⟨y5, y6, y7, y8, y9, (l_next (σ' := S53 T D gaps ((O ++ gapOf gaps k) ++ h.x) (P ++ [tokD W (h.s, h.v, h.x ++ cat (reg (gapOf gaps) (k + 1) b) [], cat (reg (gapOf gaps) (k + 1) b) [])]) (some (.int k)) (some h.s) (some h.v) (some (.int (pos T (h.x ++ cat b z)))) (some (.int (pos T (cat b z)))))
   (s_setT (σ' := S53 T D gaps O P (some (.int k)) (some h.s) (some h.v) (some (.int (pos T (h.x ++ cat b z)))) (some (.int (pos T (cat b z))))) (e_idxL rfl rfl (p_idxL (okN_nat (by lia)) hD1)) rfl
    (s_set (e_cat rfl (e_menu (gaps := gaps) rfl rfl) (by lia))
     (s_seq (x_push rfl (ct ▸ e_tup4 rfl rfl (e_len hO rfl) (e_sub (e_add (e_len hO rfl) rfl) rfl)) (by lia))
      (x_set (e_cat rfl (e_slc sl rfl rfl rfl) (by rw [List.length_append]; lia))))))).trans (ih.trans ?_)⟩
  rw [List.append_assoc]; rfl
theorem f53 {T z : List Nat} {l : List Chk} {gaps : Int} (hf : Fit T) (hT : T = cat l z) (hl : l.length <= 4000) (hW : (cat (reg (gapOf gaps) 0 l) []).length <= 4000) :
  cfn K (d + 1) 53 [.str (mkS T), .list ((toks l z).map (tokD T) ++ [endD T]), .int gaps] =
   .ok (.d (.tuple [.str (mkS (cat (reg (gapOf gaps) 0 l) [])), .list ((toks (reg (gapOf gaps) 0 l) []).map (tokD (cat (reg (gapOf gaps) 0 l) [])) ++ [endD (cat (reg (gapOf gaps) 0 l) [])])])) := by
 rw [c53]
 have hL : ((toks l z).map (tokD T) ++ [endD T]).length = l.length + 1 := by rw [List.length_append, List.length_map, toks_len]; rfl
 obtain ⟨y5, y6, y7, y8, y9, h⟩ := L53 (K := K) (cf := cfn K d) (D := (toks l z).map (tokD T) ++ [endD T]) (gaps := gaps) hf hW l 0 [] [] none none none none none (by rw [hT]; exact List.suffix_refl _) rfl rfl (by lia) (by show 0 + _ <= _; lia)
 have hR : ((toks (reg (gapOf gaps) 0 l) []).map (tokD (cat (reg (gapOf gaps) 0 l) []))).length = l.length := by rw [List.length_map, toks_len, reg_len]
 have run : exc (cfn K d) K cm53 ⟨[some (.str (mkS T)), some (.list ((toks l z).map (tokD T) ++ [endD T])), some (.int gaps), none, none, none, none, none, none, none], none⟩ =
   .ok (.ret (.d (.tuple [.str (mkS (cat (reg (gapOf gaps) 0 l) [])), .list ((toks (reg (gapOf gaps) 0 l) []).map (tokD (cat (reg (gapOf gaps) 0 l) [])) ++ [endD (cat (reg (gapOf gaps) 0 l) [])])]))) := by
  refine s_seq (σ' := S53 T ((toks l z).map (tokD T) ++ [endD T]) gaps [] [] none none none none none) rfl (s_seq ((x_forR (n := l.length) (e_sub (x := ((toks l z).map (tokD T) ++ [endD T]).length) (e_lenL rfl (by lia)) rfl |>.trans ?_) hl).trans h) ?_)
  ·have : ((l.length + 1 : Nat) : Int) - 1 = l.length := by lia
   rw [hL, this]
  ·have e1 : ev (cfn K d) (S53 T ((toks l z).map (tokD T) ++ [endD T]) gaps (cat (reg (gapOf gaps) 0 l) []) ([] ++ (toks (reg (gapOf gaps) 0 l) []).map (tokD (cat (reg (gapOf gaps) 0 l) []))) y5 y6 y7 y8 y9)
     (.tup (.cons (.str ⟨#[101, 110, 100]⟩) (.cons (.str ⟨#[]⟩) (.cons (.bi .len (.v 3)) (.cons (.bi .len (.v 3)) .nil))))) = .ok (.d (endD (cat (reg (gapOf gaps) 0 l) []))) := by
    unfold endD
    rw [pos_nil]
    exact e_tup4 rfl rfl (e_len hW rfl) (e_len hW rfl)
   exact x_retTPush rfl rfl e1 (by rw [hR]; lia)
 rw [run]; rfl
end
theorem err_both (f : Nat) : (∀ r m, dolF f r = .error m -> lo m = true) /\ (∀ st P R u m, fillF f st P R u = .error m -> lo m = true) := by
 have E : ∀ {α : Type} {m m' : List Nat}, (Except.error m : Except (List Nat) α) = .error m' -> lo m = true -> lo m' = true := fun h k => by cases h; exact k
 induction f with
 | zero => exact ⟨fun r m h => E (α := Option (List Nat × PyData) × List Nat) h rfl, fun st P R u m h => E (α := List PyData × List Nat) h rfl⟩
 | succ f H =>
  obtain ⟨H1, H2⟩ := H
  refine ⟨fun r m h => dol_inv h (fun _ _ h => brK_inv h (fun h => E h rfl) fun _ _ _ h => nomatch h) (fun _ _ _ h => paK_inv h (fun _ hd h => E h (H2 _ _ _ _ _ hd)) (fun h => E h rfl) fun _ _ _ _ h => nomatch h) (fun _ _ _ h => nomatch h) fun _ _ _ h => (nomatch h), fun st P R u m h => ?_⟩
  cases u with
  | nil => exact nomatch (show (Except.ok (flush P R, []) : FR) = .error m from h)
  | cons c r => exact fill_inv h (fun _ h => nomatch h) (fun _ _ h => dolK_inv h (fun _ hd h => E h (H1 _ _ hd)) (fun _ _ h => H2 _ _ _ _ _ h) fun _ _ _ h => H2 _ _ _ _ _ h) (fun _ _ h => H2 _ _ _ _ _ h) (fun h => E h rfl) (fun _ _ _ _ h => H2 _ _ _ _ _ h) (fun _ _ _ _ _ h => H2 _ _ _ _ _ h) fun _ h => H2 _ _ _ _ _ h
theorem tok_err {F c : Nat} {r : List Nat} {m : Err} (hc : c < 128) (h : tokF F (c :: r) = .error m) : loE m = true := by
 have E : ∀ {m m' : Err}, (Except.error m : Except Err TV) = .error m' -> loE m = true -> loE m' = true := fun h k => by cases h; exact k
 exact tok_inv h (fun _ hd h => E h ((err_both F).1 _ _ hd)) (fun _ hd h => E h ((err_both F).2 _ _ _ _ _ hd)) (fun _ k h => E h k) (fun _ _ _ _ h => nomatch h) (fun _ h => nomatch h) (fun _ _ _ _ _ h => nomatch h) (fun _ _ _ _ h => nomatch h) (fun _ h => nomatch h)
  fun _ _ h => sgn_inv h (fun _ k h => E h (k hc)) (fun _ _ h => nomatch h) (fun _ _ _ _ h => nomatch h) fun _ _ _ h => nomatch h
theorem lex_err {F : Nat} : ∀ (n : Nat) (u : List Nat) (m : Err), gd u = true -> lexF F n u = .error m -> loE m = true
 | 0, _, _, _, h => (by cases h; rfl)
 | n + 1, [], _, _, h => (by cases h)
 | n + 1, c :: r, m, hg, h => by
  rw [lex_step] at h
  cases hx : tokF F (c :: r) with
  | error m' => rw [hx] at h; cases h; exact tok_err (gd_lt hg) hx
  | ok v =>
   rw [hx] at h
   dsimp only at h
   cases hl : lexF F n (skipF false v.2.2) with
   | error m' =>
    rw [hl] at h; cases h
    obtain ⟨s, w, e⟩ := v
    exact lex_err n _ _ (gd_suf ((skip_suf false e).trans (tok_suf hg hx)) (gd_tail hg)) hl
   | ok ts => rw [hl] at h; cases h
theorem xlist_lw {T : List Nat} {m : Err} (hT : lo T = true) (hm : loE m = true) : Lw 3 (xList (errX T m)) := by
 cases m with
 | inl m => exact Lw.list (.cons (Lw.tup (.cons Lw.int (.cons (Lw.str hm) (.cons (Lw.tup (.cons (Lw.str rfl) .nil)) .nil)))) .nil)
 | inr m => exact Lw.list (.cons (Lw.tup (.cons Lw.int (.cons (Lw.str (lo_app (lo_app (lo_app hm rfl) hT) rfl)) (.cons (Lw.tup (.cons (Lw.str rfl) (.cons (Lw.str rfl) (.cons (Lw.str rfl) .nil)))) .nil)))) .nil)
theorem sh_lw {n : Nat} {x : PyData} (h : Lw n x) (hn : n <= 64) : SeqAt.shaped x = true := by
 unfold SeqAt.shaped; rw [h.1, decide_eq_true (Nat.le_trans h.2 hn)]; rfl
theorem ne_self {n : Nat} {l : List PyData} (h : Lw n (.list l)) (hn : n <= 64) : cpD .ne (.list l) (.list l) = .ok false := by
 show (if true && true then (if (SeqAt.shaped (.list l) && SeqAt.shaped (.list l)) = true then Rs.ok (!PyData.eqv (.list l) (.list l)) else .stuck) else .stuck) = _
 rw [if_pos (show (true && true) = true from rfl)]
 rw [if_pos (by rw [sh_lw h hn]; rfl), SeqAt.eqv_refl _ h.1]; rfl
noncomputable abbrev B54 : Cm := .seq (.set 4 (.joinL (.lsl (.v 0) (.v 3))))
 (.seq (.heardS 5 51 (.v 4))
 (.seq (.heardIf 36 (.v 4) 5
 (.ret (.bool false)) .skip)
 (.seq (.ite (.or (.cons (.cmp .eq (.bi .len (.idx (.v 5) (.int 0))) (.int 3)) (.cons (.cmp .eq (.bi .len (.v 5)) (.int 1)) .nil)))
 .cont .skip)
 (.seq (.set 6 (.bin .fmod (.v 1) (.bin .sub (.bi .len (.v 5)) (.int 1))))
 (.seq (.set 7 (.idx (.idx (.v 5) (.v 6)) (.int 3)))
 (.seq (.ite (.cmp .ne (.call 36 (.cons (.slNS (.v 4) (.v 7)) .nil)) (.ladd (.lsl (.v 5) (.bin .add (.v 6) (.int 1))) (.lst (.cons (.tup (.cons (.str ⟨#[101, 110, 100]⟩) (.cons (.str ⟨#[]⟩) (.cons (.v 7) (.cons (.v 7) .nil))))) .nil))))
 (.ret (.bool false)) .skip)
 (.seq (.setT [8, 9] (.call 53 (.cons (.v 4) (.cons (.v 5) (.cons (.v 2) .nil)))))
 (.ite (.cmp .ne (.call 36 (.cons (.v 8) .nil)) (.v 9))
 (.ret (.bool false)) .skip))))))))
noncomputable def PcOk (p : List Nat) : Prop := Cl p /\ p.length <= 5 /\ p.count 36 <= 1
theorem piece_ok : ∀ p ∈ pieceLs, PcOk p := by
 unfold pieceLs
 simp only [List.forall_mem_cons]
 repeat' apply And.intro
 all_goals first | exact fun e he => he | decide | exact fun p hp => nomatch hp
noncomputable def pieceL (script : List Int) (k : Nat) : List Nat := pieceLs.getD ((rowTbl.getD k 0 + script.getD k 0).fmod 55).toNat []
theorem piece_at (script : List Int) (k : Nat) : pieceAt script k = ⟨(pieceL script k).toArray⟩ := rfl
theorem pieceL_ok (script : List Int) (k : Nat) : PcOk (pieceL script k) := by
 unfold pieceL
 rw [List.getD_eq_getElem?_getD]
 cases h : pieceLs[((rowTbl.getD k 0 + script.getD k 0).fmod 55).toNat]? with
 | none => exact ⟨Cl.nil, Nat.zero_le _, Nat.zero_le _⟩
 | some p => exact piece_ok p (List.mem_of_getElem? h)
theorem text_ok (script : List Int) : ∀ ks : List Nat, Cl (ks.flatMap (pieceL script)) /\ (ks.flatMap (pieceL script)).length <= 5 * ks.length /\ (ks.flatMap (pieceL script)).count 36 <= ks.length
 | [] => ⟨Cl.nil, Nat.zero_le _, Nat.zero_le _⟩
 | k :: ks => by
  obtain ⟨h1, h2, h3⟩ := text_ok script ks
  obtain ⟨g1, g2, g3⟩ := pieceL_ok script k
  rw [List.flatMap_cons, List.length_append, List.count_append, List.length_cons]
  exact ⟨g1.app h1, by lia, by lia⟩
noncomputable def textL (script : List Int) (m : Nat) : List Nat := ((List.range 18).take m).flatMap (pieceL script)
theorem textL_ok (script : List Int) (m : Nat) : gd (textL script m) = true /\ (textL script m).length <= 90 /\ (textL script m).count 36 <= 18 := by
 obtain ⟨h1, h2, h3⟩ := text_ok script ((List.range 18).take m)
 have hl : ((List.range 18).take m).length <= 18 := by rw [List.length_take, List.length_range]; exact Nat.min_le_right _ _
 refine ⟨?_, Nat.le_trans h2 (by lia), Nat.le_trans h3 hl⟩
 have := h1 [] rfl
 rw [List.append_nil] at this
 exact this
section
variable {K d : Nat} {cf : Cfn} {σ : Sg}
theorem x_heardS {i f : Nat} {e : Ex} {x y : PyData} (h : ev cf σ e = .ok (.d x)) (g : heardR (cf f [x]) = .ok (.d y)) : exc cf K (.heardS i f e) σ = .ok (.next (σ.put i y)) := by
 show (ev cf σ e).bind _ = _
 rw [h]
 show (heardR (cf f [x])).bind _ = _
 rw [g]; rfl
theorem x_heardIf {f j : Nat} {e : Ex} {a b : Cm} {x y z : PyData} {r : Rs Out} (h : ev cf σ e = .ok (.d x)) (g : heardR (cf f [x]) = .ok (.d y)) (hz : σ.get j = .ok (.d z)) (hc : cpD .ne y z = .ok false) (k : exc cf K b σ = r) : exc cf K (.heardIf f e j a b) σ = r := by
 show (ev cf σ e).bind _ = _
 rw [h]
 show (heardR (cf f [x])).bind _ = _
 rw [g]
 show (σ.get j).bind _ = _
 rw [hz]
 show (cpD .ne y z).bind _ = _
 rw [hc]
 exact k
theorem e_ne {a b : Ex} {x y : PyData} {t : Bool} (ha : ev cf σ a = .ok (.d x)) (hb : ev cf σ b = .ok (.d y)) (h : cpD .ne x y = .ok t) : ev cf σ (.cmp .ne a b) = .ok (.d (.bool t)) := by
 show (ev cf σ a).bind _ = _
 rw [ha]
 show (ev cf σ b).bind _ = _
 rw [hb]
 show (cpD .ne x y).bind _ = _
 rw [h]; rfl
theorem small_big {n : Nat} (h : n <= 100000) : decide (n <= big) = true := decide_eq_true (Nat.le_trans h (by decide))
theorem p_lsl {l : List PyData} {j : Nat} (hj : j <= 100000) (hl : l.length <= 100000) : lslD (.list l) (.int (j : Int)) = .ok (.list (l.take j)) := by
 unfold lslD
 rw [show listD (.list l) = .ok l from rfl, rb, int_eq, rb, okN_nat hj, small_big hl, Int.toNat_natCast]; rfl
theorem p_ladd {l r : List PyData} (hl : l.length + r.length <= 100000) : laddD (.list l) (.list r) = .ok (.list (l ++ r)) := by
 show (if l.length + r.length <= big then Rs.ok (PyData.list (l ++ r)) else .stuck) = _
 rw [if_pos (of_decide_eq_true (small_big hl))]
theorem evq_lsl {a b : Ex} : ev cf σ (.lsl a b) = (ev cf σ a).bind fun x => x.dat.bind fun x => (ev cf σ b).bind fun y => y.dat.bind fun y => (lslD x y).bind fun r => .ok (.d r) := rfl
theorem evq_ladd {a b : Ex} : ev cf σ (.ladd a b) = (ev cf σ a).bind fun x => x.dat.bind fun x => (ev cf σ b).bind fun y => y.dat.bind fun y => (laddD x y).bind fun r => .ok (.d r) := rfl
theorem e_lsl {a b : Ex} {l : List PyData} {j : Nat} (ha : ev cf σ a = .ok (.d (.list l))) (hb : ev cf σ b = .ok (.d (.int (j : Int)))) (hj : j <= 100000) (hl : l.length <= 100000) : ev cf σ (.lsl a b) = .ok (.d (.list (l.take j))) := by
 rw [evq_lsl, ha, rb, db, rb, hb, rb, db, rb, p_lsl hj hl, rb]
theorem e_ladd {a b : Ex} {l r : List PyData} (ha : ev cf σ a = .ok (.d (.list l))) (hb : ev cf σ b = .ok (.d (.list r))) (hl : l.length + r.length <= 100000) : ev cf σ (.ladd a b) = .ok (.d (.list (l ++ r))) := by
 rw [evq_ladd, ha, rb, db, rb, hb, rb, db, rb, p_ladd hl, rb]
theorem e_lst1 {a : Ex} {x : PyData} (ha : ev cf σ a = .ok (.d x)) : ev cf σ (.lst (.cons a .nil)) = .ok (.d (.list [x])) := by
 show ((ev cf σ a).bind _).bind _ = _
 rw [ha]; rfl
theorem e_joinL {a : Ex} (L : List (List Nat)) (ha : ev cf σ a = .ok (.d (.list (L.map fun x => PyData.str ⟨x.toArray⟩)))) (h1 : L.length <= 1000) (h2 : L.flatten.length <= 4000) : ev cf σ (.joinL a) = .ok (.d (.str ⟨L.flatten.toArray⟩)) := by
 have hc : catS (L.map fun x => (⟨x.toArray⟩ : Str)) = ⟨L.flatten.toArray⟩ := by
  unfold catS
  rw [List.flatMap_map, List.flatMap_def]
  congr 2
  rw [List.map_id'']
  intro x; rfl
 show (ev cf σ a).bind _ = _
 rw [ha]
 show (joinD (.list (L.map fun x => PyData.str ⟨x.toArray⟩))).bind _ = _
 show (Rs.opt (strsOf (L.map fun x => PyData.str ⟨x.toArray⟩)) _).bind _ = _
 rw [strsOf_tup]
 show (if _ then _ else _ : Rs PyData).bind _ = _
 rw [hc, if_pos]
 ·rfl
 ·rw [List.length_map, decide_eq_true (show (Str.cps ⟨L.flatten.toArray⟩).size <= big from Nat.le_trans h2 (by decide)), decide_eq_true (Nat.le_trans h1 (by decide))]; rfl
theorem e_fmod {a b : Ex} {x : Int} {n : Nat} (ha : ev cf σ a = .ok (.d (.int x))) (hb : ev cf σ b = .ok (.d (.int (n : Int)))) (h : 0 < n /\ n <= 100000) : ev cf σ (.bin .fmod a b) = .ok (.d (.int (x.fmod n))) := by
 show (ev cf σ a).bind _ = _
 rw [ha]
 show (ev cf σ b).bind _ = _
 rw [hb]
 show (if 0 < (n : Int) /\ (n : Int) < 2 ^ 62 then Rs.ok (PyData.int (x.fmod n)) else .stuck).bind _ = _
 rw [if_pos ⟨Int.ofNat_lt.mpr h.1, Int.lt_of_le_of_lt (Int.ofNat_le.mpr h.2) (by decide)⟩]; rfl
theorem e_lenT {a : Ex} {l : List PyData} (h : ev cf σ a = .ok (.d (.tuple l))) (hl : l.length <= 100000) : ev cf σ (.bi .len a) = .ok (.d (.int l.length)) := by
 show (ev cf σ a).bind _ = _
 rw [h]
 show ((if l.length <= big then Rs.ok (PyData.int l.length) else .stuck) : Rs PyData).bind _ = _
 rw [if_pos (Nat.le_trans hl (by decide))]; rfl
noncomputable def S54 (script : List Int) (x3 x4 x5 x6 x7 x8 x9 : Option PyData) : Sg := ⟨[some (piecesD script), some (.int (script.getD 18 0)), some (.int (script.getD 19 342391)), x3, x4, x5, x6, x7, x8, x9], none⟩
theorem g36 {T : List Nat} (hK : 4001 <= K) (hf : Fit T) (hg : gd T = true) (hN : T.count 36 <= 18) : cfn K (d + 60) 36 [.str (mkS T)] = lexR T (lexF 4001 4001 (skipF false T)) :=
 f36 (d := d + 15) (N := 18) hf hK hg hN (Nat.lt_succ_of_le hf) (Nat.lt_succ_of_le hf)
theorem g51 {T : List Nat} (hK : 4001 <= K) (hf : Fit T) (hg : gd T = true) (hN : T.count 36 <= 18) : cfn K (d + 60) 51 [.str (mkS T)] = lexR T (lexF 4001 4001 (skipF false T)) :=
 f51 (d := d + 19) (N := 18) hf hK hg hN (Nat.lt_succ_of_le hf) (Nat.lt_succ_of_le hf) (by decide)
end
theorem pieces_eq (script : List Int) : piecesD script = .list (((List.range 18).map (pieceL script)).map fun x => PyData.str ⟨x.toArray⟩) := by
 unfold piecesD
 rw [List.map_map]
 congr 1
section
variable {K d : Nat} {script : List Int}
theorem e_text {cf : Cfn} {m : Nat} (hm : m <= 18) {x4 x5 x6 x7 x8 x9 : Option PyData} :
  ev cf (S54 script (some (.int (m : Int))) x4 x5 x6 x7 x8 x9) (.joinL (.lsl (.v 0) (.v 3))) = .ok (.d (.str ⟨(textL script m).toArray⟩)) := by
 have hl := (textL_ok script m).2.1
 unfold textL at hl ⊢
 rw [List.flatMap_def] at hl ⊢
 refine e_joinL (((List.range 18).take m).map (pieceL script)) ?_ (by simp; lia) (Nat.le_trans hl (by decide))
 have h := e_lsl (cf := cf) (σ := S54 script (some (.int (m : Int))) x4 x5 x6 x7 x8 x9) (a := .v 0) (b := .v 3) (l := ((List.range 18).map (pieceL script)).map fun x => PyData.str ⟨x.toArray⟩) (j := m) (by rw [<- pieces_eq]; rfl) rfl (by lia) (by simp)
 rw [h, List.map_take, List.map_take]
theorem split_at {α : Type} : ∀ {l : List α} {q : Nat}, q < l.length -> ∃ a h b, l = a ++ h :: b /\ a.length = q
 | [], q, h => absurd h (Nat.not_lt_zero _)
 | x :: l, 0, _ => ⟨[], x, l, rfl, rfl⟩
 | x :: l, q + 1, h => by
  obtain ⟨a, y, b, h1, h2⟩ := split_at (l := l) (q := q) (by simpa using h)
  exact ⟨x :: a, y, b, by rw [h1]; rfl, by rw [List.length_cons, h2]⟩
noncomputable def Goes (K d : Nat) (script : List Int) (m : Nat) (x4 x5 x6 x7 x8 x9 : Option PyData) : Prop :=
 ∃ y4 y5 y6 y7 y8 y9, exc (cfn K (d + 60)) K B54 (S54 script (some (.int (m : Int))) x4 x5 x6 x7 x8 x9) = .ok (.next (S54 script (some (.int (m : Int))) y4 y5 y6 y7 y8 y9)) \/
  exc (cfn K (d + 60)) K B54 (S54 script (some (.int (m : Int))) x4 x5 x6 x7 x8 x9) = .ok (.cont (S54 script (some (.int (m : Int))) y4 y5 y6 y7 y8 y9))
theorem lexR_re {K d : Nat} {l : List Chk} (hK : 4001 <= K) (hg : gd (cat l []) = true) (hN : (cat l []).count 36 <= 18) (hl : (cat l []).length <= 4000) (hn : l.length <= 4000) (hr : Re 4001 l []) :
  cfn K (d + 60) 36 [.str (mkS (cat l []))] = .ok (.d (.list ((toks l []).map (tokD (cat l [])) ++ [endD (cat l [])]))) /\
   cpD .ne (.list ((toks l []).map (tokD (cat l [])) ++ [endD (cat l [])])) (.list ((toks l []).map (tokD (cat l [])) ++ [endD (cat l [])])) = .ok false := by
 have h := lex_re l [] 4001 hr (by lia)
 refine ⟨?_, ne_self (lexR_lw hg hN h) (by decide)⟩
 rw [g36 hK hl hg hN, h]; rfl
theorem goes (hK : 4001 <= K) {m : Nat} (hm : m <= 18) {x4 x5 x6 x7 x8 x9 : Option PyData} : Goes K d script m x4 x5 x6 x7 x8 x9 := by
 obtain ⟨hg, hl90, hN⟩ := textL_ok script m
 have ht := e_text (cf := cfn K (d + 60)) (script := script) hm (x4 := x4) (x5 := x5) (x6 := x6) (x7 := x7) (x8 := x8) (x9 := x9)
 generalize textL script m = T at hg hl90 hN ht
 have hf : Fit T := Nat.le_trans hl90 (by decide)
 have h36 := g36 (K := K) (d := d) hK hf hg hN
 have h51 := g51 (K := K) (d := d) hK hf hg hN
 cases hx : lexF 4001 4001 (skipF false T) with
 | error e =>
  rw [hx] at h36 h51
  have hne := ne_self (xlist_lw (lo_gd hg) (lex_err _ _ _ (gd_suf (skip_suf false T) hg) hx)) (by decide)
  refine ⟨some (.str (mkS T)), some (xList (errX T e)), x6, x7, x8, x9, .inr ?_⟩
  have k : exc (cfn K (d + 60)) K (.ite (.or (.cons (.cmp .eq (.bi .len (.idx (.v 5) (.int 0))) (.int 3)) (.cons (.cmp .eq (.bi .len (.v 5)) (.int 1)) .nil))) .cont .skip) (S54 script (some (.int (m : Int))) (some (.str (mkS T))) (some (xList (errX T e))) x6 x7 x8 x9) =
    .ok (.cont (S54 script (some (.int (m : Int))) (some (.str (mkS T))) (some (xList (errX T e))) x6 x7 x8 x9)) :=
   x_iteT (e_or2 (t := true) (e_eqI (e_lenT (e_idxL rfl rfl (p_idxL (k := 0) (okN_nat (by decide)) rfl)) (show 3 <= 100000 by decide)) rfl) (fun q => by cases q)) rfl
  exact s_set ht (s_seq (x_heardS rfl (by rw [h51]; rfl)) (s_seq (x_heardIf rfl (by rw [h36]; rfl) rfl hne rfl) (x_seqC k)))
 | ok ts =>
  rw [hx] at h36 h51
  have hne := ne_self (lexR_lw hg hN hx) (by decide)
  obtain ⟨l, z, hT, rfl, hal⟩ := lex_dec 4001 T ts hg hx
  have hlen := lex_len _ _ _ (gd_suf (skip_suf false T) hg) hx
  have hsk := (skip_suf false T).length_le
  rw [toks_len] at hlen
  have hL : ((toks l z).map (tokD T) ++ [endD T]).length = l.length + 1 := by rw [List.length_append, List.length_map, toks_len]; rfl
  cases hle : l with
  | nil =>
   subst hle
   refine ⟨some (.str (mkS T)), some (.list [endD T]), x6, x7, x8, x9, .inr ?_⟩
   have k : exc (cfn K (d + 60)) K (.ite (.or (.cons (.cmp .eq (.bi .len (.idx (.v 5) (.int 0))) (.int 3)) (.cons (.cmp .eq (.bi .len (.v 5)) (.int 1)) .nil))) .cont .skip) (S54 script (some (.int (m : Int))) (some (.str (mkS T))) (some (.list [endD T])) x6 x7 x8 x9) =
     .ok (.cont (S54 script (some (.int (m : Int))) (some (.str (mkS T))) (some (.list [endD T])) x6 x7 x8 x9)) :=
    x_iteT (e_or2 (t := true) (e_eqI (e_lenT (e_idxL rfl rfl (p_idxL (k := 0) (okN_nat (by decide)) rfl)) (show 4 <= 100000 by decide)) rfl) (fun _ => e_eqI (x := 1) (y := 1) (e_lenL (l := [endD T]) rfl (show 1 <= 100000 by decide)) rfl)) rfl
   exact s_set ht (s_seq (x_heardS rfl (by rw [h51]; rfl)) (s_seq (x_heardIf rfl (by rw [h36]; rfl) rfl hne rfl) (x_seqC k)))
  | cons h0 l0 =>
   have hpos : 0 < l.length := by rw [hle]; exact Nat.succ_pos _
   have hD0 : ∃ t, ((toks l z).map (tokD T) ++ [endD T])[0]? = some (tokD T t) := by rw [hle]; exact ⟨_, rfl⟩
   clear hle
   obtain ⟨t0, hD0⟩ := hD0
   have f0 := Int.fmod_nonneg_of_pos (script.getD 18 0) (b := (l.length : Int)) (Int.ofNat_lt.mpr hpos)
   have f1 := Int.fmod_lt_of_pos (script.getD 18 0) (b := (l.length : Int)) (Int.ofNat_lt.mpr hpos)
   obtain ⟨q, hq⟩ := Int.eq_ofNat_of_zero_le f0
   rw [hq] at f1
   have hql : q < l.length := Int.ofNat_lt.mp f1
   have hl4 : l.length <= 4000 := Nat.le_trans hlen (Nat.le_trans hsk hf)
   obtain ⟨a, h, b, hab, haq⟩ := split_at (l := l) (q := q) hql
   -- the other text
   obtain ⟨r1, r2, r3⟩ := reg_facts (gapOf_mem (script.getD 19 342391)) l 0 hal
   rw [<- hT] at r2 r3
   have hW : (cat (reg (gapOf (script.getD 19 342391)) 0 l) []).length <= 4000 := Nat.le_trans r3 (Nat.le_trans (Nat.mul_le_mul_left 7 hl90) (by decide))
   have h53 := f53 (K := K) (d := d + 59) (gaps := script.getD 19 342391) hf hT hl4 hW
   obtain ⟨w1, w2⟩ := lexR_re (K := K) (d := d) hK r1 (Nat.le_trans r2 hN) hW (by rw [reg_len]; exact hl4) (reg_re (gapOf_mem (script.getD 19 342391)) l 0 hal)
   -- the text up to a token's end
   have hab2 : l = (a ++ [h]) ++ b := by rw [hab]; simp
   have hal2 := hal
   rw [hab2] at hal2
   have u1 := re_pre (a ++ [h]) hal2
   have u2 := al_take (a ++ [h]) hal2
   have hTa : T = cat (a ++ [h]) [] ++ cat b z := by rw [hT, hab2, cat_app, cat_nil (a ++ [h])]
   have hcl : T.length = (cat (a ++ [h]) []).length + (cat b z).length := by
    have := congrArg List.length hTa
    rwa [List.length_append] at this
   have hcc : T.count 36 = (cat (a ++ [h]) []).count 36 + (cat b z).count 36 := by
    have := congrArg (List.count 36) hTa
    rwa [List.count_append] at this
   have hal1 : (a ++ [h]).length = q + 1 := by rw [List.length_append, haq]; rfl
   have hlq : l.length = q + 1 + b.length := by rw [hab2, List.length_append, hal1]
   obtain ⟨v1, v2⟩ := lexR_re (K := K) (d := d) hK u2 (Nat.le_trans (Nat.le_add_right _ _) (hcc ▸ hN)) (Nat.le_trans (Nat.le_add_right _ (cat b z).length) (hcl ▸ (show T.length <= 4000 from hf))) (by rw [hal1]; exact Nat.le_trans hql hl4) u1
   have hpre := toks_pre hcl (a ++ [h])
   have htk : (toks l z).map (tokD T) = (toks (a ++ [h]) (cat b z)).map (tokD T) ++ (toks b z).map (tokD T) := by rw [hab2, toks_app, List.map_append]
   have htake : ((toks l z).map (tokD T) ++ [endD T]).take (q + 1) = (toks (a ++ [h]) []).map (tokD (cat (a ++ [h]) [])) := by
    rw [htk, List.append_assoc, List.take_left' (by rw [List.length_map, toks_len, hal1]), hpre]
   have hDq : ∃ s v, ((toks l z).map (tokD T) ++ [endD T])[q]? = some (.tuple [s, v, .int (pos T (h.x ++ cat b z)), .int (pos T (cat b z))]) := by
    refine ⟨h.s, h.v, ?_⟩
    have e1 : (toks (a ++ [h]) (cat b z)).map (tokD T) = (toks a (cat [h] (cat b z))).map (tokD T) ++ [tokD T (h.s, h.v, h.x ++ cat b z, cat b z)] := by
     rw [toks_app, List.map_append]; rfl
    rw [htk, e1, List.append_assoc, List.append_assoc, List.getElem?_append_right (by rw [List.length_map, toks_len, haq]; exact Nat.le_refl _), List.length_map, toks_len, haq, Nat.sub_self]
    rfl
   obtain ⟨s, v, hDq⟩ := hDq
   have hend : endD (cat (a ++ [h]) []) = .tuple [.str ⟨[101, 110, 100].toArray⟩, .str ⟨([] : List Nat).toArray⟩, .int (pos T (cat b z)), .int (pos T (cat b z))] := by
    have : pos (cat (a ++ [h]) []) [] = pos T (cat b z) := by unfold pos; rw [List.length_nil, hcl]; exact (Int.sub_zero _).trans (Int.add_sub_cancel ((cat (a ++ [h]) []).length : Int) ((cat b z).length : Int)).symm
    unfold endD; rw [this]
   have hsuf : cat b z <:+ T := by rw [hTa]; exact List.suffix_append _ _
   have hsl := p_slN hf hsuf
   have hdif : dif T (cat b z) = cat (a ++ [h]) [] := by rw [hTa, dif_append]
   rw [hdif] at hsl
   generalize hD : (toks l z).map (tokD T) ++ [endD T] = D at h36 h51 hne hL hD0 htake hDq h53
   let σ4 : Sg := S54 script (some (.int (m : Int))) (some (.str (mkS T))) (some (.list D)) (some (.int (q : Int))) (some (.int (pos T (cat b z)))) x8 x9
   have h36' : heardR (cfn K (d + 60) 36 [.str (mkS T)]) = .ok (.d (.list D)) := by rw [h36]; show heardR (Rs.ok (V.d (.list ((toks l z).map (tokD T) ++ [endD T])))) = _; rw [hD]; rfl
   have h51' : heardR (cfn K (d + 60) 51 [.str (mkS T)]) = .ok (.d (.list D)) := by rw [h51]; show heardR (Rs.ok (V.d (.list ((toks l z).map (tokD T) ++ [endD T])))) = _; rw [hD]; rfl
   have hle1 : D.length <= 100000 := by rw [hL]; exact Nat.le_trans (Nat.succ_le_succ hl4) (by decide)
   have k1 : ev (cfn K (d + 60)) (S54 script (some (.int (m : Int))) (some (.str (mkS T))) (some (.list D)) x6 x7 x8 x9) (.or (.cons (.cmp .eq (.bi .len (.idx (.v 5) (.int 0))) (.int 3)) (.cons (.cmp .eq (.bi .len (.v 5)) (.int 1)) .nil))) = .ok (.d (.bool false)) := by
    refine (e_or2 (t := decide ((D.length : Int) = 1)) (e_eqI (e_lenT (l := [t0.1, t0.2.1, .int (pos T t0.2.2.1), .int (pos T t0.2.2.2)]) (e_idxL rfl rfl (p_idxL (k := 0) (okN_nat (by decide)) hD0)) (show 4 <= 100000 by decide)) rfl) (fun _ => e_eqI (e_lenL rfl hle1) rfl)).trans ?_
    rw [decide_eq_false (show ¬((D.length : Int) = 1) from fun q => absurd (Nat.succ.inj ((hL.symm.trans (Int.ofNat.inj q)))) (Nat.ne_of_gt hpos))]; rfl
   have k2 : ev (cfn K (d + 60)) (S54 script (some (.int (m : Int))) (some (.str (mkS T))) (some (.list D)) x6 x7 x8 x9) (.bin .fmod (.v 1) (.bin .sub (.bi .len (.v 5)) (.int 1))) = .ok (.d (.int (q : Int))) := by
    rw [<- hq]
    refine e_fmod rfl ((e_sub (e_lenL rfl hle1) rfl).trans ?_) ⟨hpos, Nat.le_trans hl4 (by decide)⟩
    rw [hL]
    exact congrArg (fun i => Rs.ok (V.d (PyData.int i))) (Int.add_sub_cancel (l.length : Int) 1)
   have k3 : ev (cfn K (d + 60)) (S54 script (some (.int (m : Int))) (some (.str (mkS T))) (some (.list D)) (some (.int (q : Int))) x7 x8 x9) (.idx (.idx (.v 5) (.v 6)) (.int 3)) = .ok (.d (.int (pos T (cat b z)))) :=
    e_idxT (e_idxL rfl rfl (p_idxL (okN_nat (Nat.le_trans (Nat.le_of_lt hql) (Nat.le_trans hl4 (by decide)))) hDq)) rfl (p_idxT (k := 3) (okN_nat (by decide)) rfl)
   have k4 : ev (cfn K (d + 60)) σ4 (.cmp .ne (.call 36 (.cons (.slNS (.v 4) (.v 7)) .nil)) (.ladd (.lsl (.v 5) (.bin .add (.v 6) (.int 1))) (.lst (.cons (.tup (.cons (.str ⟨#[101, 110, 100]⟩) (.cons (.str ⟨#[]⟩) (.cons (.v 7) (.cons (.v 7) .nil))))) .nil)))) = .ok (.d (.bool false)) := by
    refine e_ne (e_call1 (e_slNS hsl rfl rfl) v1) ((e_ladd (e_lsl (j := q + 1) rfl (e_addZ rfl rfl rfl) (Nat.le_trans hql (Nat.le_trans hl4 (by decide))) hle1) (e_lst1 (e_tup4 rfl rfl rfl rfl)) ?_).trans ?_) v2
    ·rw [List.length_take]; exact Nat.le_trans (Nat.succ_le_succ (Nat.le_trans (Nat.min_le_left _ _) (Nat.le_trans hql hl4))) (by decide)
    ·rw [htake, <- hend]
   have k5 : ev (cfn K (d + 60)) σ4 (.call 53 (.cons (.v 4) (.cons (.v 5) (.cons (.v 2) .nil)))) = _ := e_call3 rfl rfl rfl h53
   refine ⟨_, _, _, _, _, _, .inl (s_set ht (s_seq (x_heardS rfl h51') (s_seq (x_heardIf rfl h36' rfl hne rfl) (s_pass k1 rfl (s_set k2 (s_set k3 (s_pass k4 rfl (s_setT (σ' := S54 script (some (.int (m : Int))) (some (.str (mkS T))) (some (.list D)) (some (.int (q : Int))) (some (.int (pos T (cat b z)))) (some (.str (mkS (cat (reg (gapOf (script.getD 19 342391)) 0 l) [])))) (some (.list ((toks (reg (gapOf (script.getD 19 342391)) 0 l) []).map (tokD (cat (reg (gapOf (script.getD 19 342391)) 0 l) [])) ++ [endD (cat (reg (gapOf (script.getD 19 342391)) 0 l) [])])))) k5 rfl (s_F (e_ne (e_call1 rfl w1) rfl w2) rfl rfl)))))))))⟩
theorem pureAll : ∃ K d, d + 330 < 1000 /\ ∀ script : List Int, script.length <= 63 -> exc (cfn K (d + 1)) K cm54 (lawSg script) = .ok (.ret (.d (.bool true))) := by
 refine ⟨5000, 59, by decide, fun script _ => ?_⟩
 have st : ∀ {m : Nat}, m <= 18 -> ∀ {l : List PyData} {x3 x4 x5 x6 x7 x8 x9 : Option PyData}, ∃ y4 y5 y6 y7 y8 y9, loopL 3 (exc (cfn 5000 60) 5000 B54) (.int (m : Int) :: l) (S54 script x3 x4 x5 x6 x7 x8 x9) = loopL 3 (exc (cfn 5000 60) 5000 B54) l (S54 script (some (.int (m : Int))) y4 y5 y6 y7 y8 y9) := by
  intro m hm l x3 x4 x5 x6 x7 x8 x9
  obtain ⟨y4, y5, y6, y7, y8, y9, h⟩ := goes (K := 5000) (d := 0) (script := script) (by decide) hm (x4 := x4) (x5 := x5) (x6 := x6) (x7 := x7) (x8 := x8) (x9 := x9)
  rw [Nat.zero_add] at h
  refine ⟨y4, y5, y6, y7, y8, y9, ?_⟩
  rcases h with h | h
  ·exact l_next h
  ·exact l_cont h
 obtain ⟨a4, a5, a6, a7, a8, a9, h1⟩ := st (m := 6) (by decide) (l := [.int 12, .int 18]) (x3 := none) (x4 := none) (x5 := none) (x6 := none) (x7 := none) (x8 := none) (x9 := none)
 obtain ⟨b4, b5, b6, b7, b8, b9, h2⟩ := st (m := 12) (by decide) (l := [.int 18]) (x3 := some (.int (6 : Nat))) (x4 := a4) (x5 := a5) (x6 := a6) (x7 := a7) (x8 := a8) (x9 := a9)
 obtain ⟨c4, c5, c6, c7, c8, c9, h3⟩ := st (m := 18) (by decide) (l := []) (x3 := some (.int (12 : Nat))) (x4 := b4) (x5 := b5) (x6 := b6) (x7 := b7) (x8 := b8) (x9 := b9)
 have hl : loopL 3 (exc (cfn 5000 60) 5000 B54) [.int 6, .int 12, .int 18] (lawSg script) = .ok (.next (S54 script (some (.int (18 : Nat))) c4 c5 c6 c7 c8 c9)) := (h1.trans h2).trans (h3.trans rfl)
 have hb : exc (cfn 5000 60) 5000 (.forE 3 (.tup (.cons (.int 6) (.cons (.int 12) (.cons (.int 18) .nil)))) B54) (lawSg script) = .ok (.next (S54 script (some (.int (18 : Nat))) c4 c5 c6 c7 c8 c9)) := hl
 exact s_seq hb rfl
end
end Mine
open PySem PySem.W PyProof.Rows
set_option Elab.async true
set_option maxHeartbeats 8000000
namespace Mine
noncomputable def hd.tw10509193012170014302 : Nat := 0
noncomputable def hd.tw1652717081866841025 : Nat := 0
noncomputable def hd.tw6935196080544352101 : Nat := 0
noncomputable def hd.tw10772546034069785438 : Nat := 0
noncomputable def hd.tw3039998526598829958 : Nat := 0
noncomputable def hd.tw16206052820179778906 : Nat := 0
noncomputable def hd.tw13144010927901690077 : Nat := 0
noncomputable def hd.tw381697539089829889 : Nat := 0
noncomputable def hd.tw14260913966351254405 : Nat := 0
noncomputable def hd.tw11467801299996457980 : Nat := 0
noncomputable def hd.tw5875755337557543767 : Nat := 0
noncomputable def hd.tw5282504435634884242 : Nat := 0
noncomputable def hd.tw8789358453043137523 : Nat := 0
noncomputable def hd.tw16211521421427940678 : Nat := 0
noncomputable def hd.tw17258206423299326598 : Nat := 0
noncomputable def hd.tw8545014587354053640 : Nat := 0
noncomputable def hd.tw10216474801634566288 : Nat := 0
noncomputable def hd.tw10424393626065333798 : Nat := 0
noncomputable def hd.tw8428860471423672150 : Nat := 0
noncomputable def hd.tw14896477498954680388 : Nat := 0
noncomputable def hd.tw13855881374063213867 : Nat := 0
noncomputable def hd.tw11652457597714270106 : Nat := 0
noncomputable def hd.tw17739348878880393726 : Nat := 0
noncomputable def hd.tw17183224562656869120 : Nat := 0
noncomputable def hd.tw17901334829092211166 : Nat := 0
noncomputable def hd.tw1359830224848277088 : Nat := 0
noncomputable def hd.tw6164396464334811476 : Nat := 0
noncomputable def hd.tw12936449754285732098 : Nat := 0
noncomputable def hd.tw15368132723985388332 : Nat := 0
noncomputable def hd.tw6598312636042714100 : Nat := 0
noncomputable def hd.tw9345676750909349944 : Nat := 0
noncomputable def hd.tw16432713993328977331 : Nat := 0
noncomputable def hd.tw7068711184596962023 : Nat := 0
noncomputable def hd.tw11213053971927718326 : Nat := 0
noncomputable def hd.tw13431754692932380062 : Nat := 0
noncomputable def hd.tw2603259988358896889 : Nat := 0
noncomputable def hd.tw12647368939536790636 : Nat := 0
noncomputable def hd.tw11210553801493137410 : Nat := 0
noncomputable def hd.tw2274498078352570744 : Nat := 0
noncomputable def hd.tw5130813555471234732 : Nat := 0
noncomputable def hd.tw10603584201595350602 : Nat := 0
noncomputable def hd.tw4870687313549177768 : Nat := 0
noncomputable def hd.tw8990313861142287110 : Nat := 0
noncomputable def hd.tw1506431575118746342 : Nat := 0
noncomputable def hd.tw16477043939570097188 : Nat := 0
noncomputable def hd.tw15837987909243819085 : Nat := 0
noncomputable def hd.tw12614811148066621264 : Nat := 0
noncomputable def hd.tw2216850387143573719 : Nat := 0
noncomputable def hd.tw5688689073270430877 : Nat := 0
noncomputable def hd.tw7355570028127101125 : Nat := 0
noncomputable def hd.tw15673258824015622330 : Nat := 0
noncomputable def hd.tw15852365999677673905 : Nat := 0
noncomputable def hd.tw18322514126500204803 : Nat := 0
noncomputable def hd.tw11465210709893060100 : Nat := 0
noncomputable def hd.tw16828841361933241965 : Nat := 0
noncomputable def hd.tw1580110805410547442 : Nat := 0
noncomputable def hd.tw6442067068224118133 : Nat := 0
noncomputable def hd.tw12588582704262371052 : Nat := 0
noncomputable def hd.tw13225837485096350037 : Nat := 0
noncomputable def hd.tw16853341256802265648 : Nat := 0
theorem hd : PySem.Challenge.rw_oj0060_01.Holds := by
 w_on; o_law; o_head (kHook Mine.myK Mine.myAs Mine.myAs_ok); (case hw => w_witness2)
 obtain ⟨K, d, h1, h2⟩ := pureAll
 refine law_walk ?_ (by kernel_rfl) (by kernel_rfl) (by kernel_rfl) (by kernel_rfl) h1 h2
 exact recsOk_of (by kernel_rfl)
end Mine
theorem PySem.Challenge.cw_oj0060_01_holds : PySem.Challenge.rw_oj0060_01.Holds :=
 Mine.hd
