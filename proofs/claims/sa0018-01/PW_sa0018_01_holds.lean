import PyProof.Rows.All
import Wide.All
import OpenK.AllK
import Wide.FinOn
import Lean
import PySem.Challenge.RW_sa0018_01
set_option Elab.async false
set_option linter.unusedVariables false
set_option linter.unusedSimpArgs false
set_option maxRecDepth 100000
section
local macro_rules | `(tactic| omega) => `(tactic| lia)
section
namespace Mine
open PySem
inductive V where
 | d (x : PyData)
 | con (v : Value)
 | obj (i : Nat)
 | dict (l : List (PyData × PyData))
 | inst (C : Addr) (j : Nat)
inductive MO where
 | list (l : List PyData)
 | dict (l : List (PyData × PyData))
 | attrs (l : List (Str × V))
 | dead
noncomputable abbrev Loc := List (Str × V)
noncomputable abbrev Sto := List MO
noncomputable def setL (n : Str) (v : V) : Loc -> Loc
 | [] => [(n, v)]
 | (k, u) :: r => if k == n then (k, v) :: r else (k, u) :: setL n v r
structure Fm where
 sc : Scope
 loc : Loc
structure FnI where
 params : List Str
 body : List Stmt
 sc : Scope
structure Par where
 glob : Str -> Option V
 fn : Addr -> Option FnI
 meth : Addr -> Str -> Option Addr
 ctor : Addr -> Option Bool
 cls : Addr -> Bool
inductive Flw where
 | next
 | ret (v : V)
structure Rec where
 ev : Fm -> Expr -> Sto -> Option (V × Sto)
 tr : Fm -> Expr -> Sto -> Option (Bool × Sto)
 exs : Scope -> List Stmt -> Loc -> Sto -> Option (Flw × Loc × Sto)
 call : V -> List V -> Sto -> Option (V × Sto)
noncomputable def kindM (P : Par) (fm : Fm) (x : Str) (k : NameKind) : Option V := match k with
 | .local => fm.loc.lookup x
 | .cell => fm.loc.lookup x
 | .free => fm.loc.lookup x
 | .globalImplicit => P.glob x
 | _ => none
noncomputable def nameM (P : Par) (fm : Fm) (x : Str) : Option V :=
 if x == ("__debug__" : Str) then none else
 (fm.sc.names.lookup x).bind (kindM P fm x)
noncomputable def datOf (v : V) : Option PyData := match v with
 | .d x => some x
 | _ => none
noncomputable def boolOf (v : V) : Option Bool := match v with
 | .d x => (match x with
   | .bool b => some b
   | _ => none)
 | _ => none
noncomputable def intOf (x : PyData) : Option Int := match x with
 | .int i => some i
 | _ => none
noncomputable def strOf (x : PyData) : Option Str := match x with
 | .str i => some i
 | _ => none
noncomputable def listOf (x : PyData) : Option (List PyData) := match x with
 | .list i => some i
 | _ => none
noncomputable def tupOf (x : PyData) : Option (List PyData) := match x with
 | .tuple i => some i
 | _ => none
noncomputable def viewE (e : Expr) : Option Str × Option (List Expr) × Option (Expr × List Comprehension × Scope) × Option (Expr × Expr) × Option (Option Expr × Option Expr × Option Expr) × Option (Expr × Str × Pos) × Option (Expr × List Expr × List Keyword) × Option Const := match e with
 | .Name n _ => (some n, none, none, none, none, none, none, none)
 | .Tuple l _ _ => (none, some l, none, none, none, none, none, none)
 | .ListComp elt gens sc _ => (none, none, some (elt, gens, sc), none, none, none, none, none)
 | .Subscript o i _ => (none, none, none, some (o, i), none, none, none, none)
 | .Slice lo hi st _ => (none, none, none, none, some (lo, hi, st), none, none, none)
 | .Attribute o n p => (none, none, none, none, none, some (o, n, p), none, none)
 | .Call f args ks _ => (none, none, none, none, none, none, some (f, args, ks), none)
 | .Constant c _ _ => (none, none, none, none, none, none, none, some c)
 | _ => (none, none, none, none, none, none, none, none)
noncomputable def nameOf (e : Expr) : Option Str := (viewE e).1
noncomputable def tupE (e : Expr) : Option (List Expr) := (viewE e).2.1
noncomputable def lcE (e : Expr) : Option (Expr × List Comprehension × Scope) := (viewE e).2.2.1
noncomputable def subE (e : Expr) : Option (Expr × Expr) := (viewE e).2.2.2.1
noncomputable def sliceE (e : Expr) : Option (Option Expr × Option Expr × Option Expr) := (viewE e).2.2.2.2.1
noncomputable def attrE (e : Expr) : Option (Expr × Str × Pos) := (viewE e).2.2.2.2.2.1
noncomputable def constOf (e : Expr) : Option Const := (viewE e).2.2.2.2.2.2.2
noncomputable def callN (e : Expr) : Option (Str × List Expr) := ((viewE e).2.2.2.2.2.2.1).bind fun q => if q.2.2.isEmpty then (nameOf q.1).bind fun f => some (f, q.2.1) else none
noncomputable def notO (b : Option Bool) : Option Bool := match b with
 | some b => some (!b)
 | none => none
noncomputable def constM : Const -> Option V
 | .none => some (.d .none)
 | .bool b => some (.d (.bool b))
 | .int i => some (.d (.int i))
 | .str x => some (.d (.str x))
 | _ => none
noncomputable def smallI (i : Int) : Bool := decide (-(2 ^ 40) < i) && decide (i < 2 ^ 40)
noncomputable def addD (x y : PyData) : Option PyData := match x with
 | .int a => (intOf y).bind fun b => if smallI a && smallI b then some (.int (a + b)) else none
 | .list a => (listOf y).bind fun b => if decide (a.length + b.length <= 100000) then some (.list (a ++ b)) else none
 | .tuple a => (tupOf y).bind fun b => if decide (a.length + b.length <= 100000) then some (.tuple (a ++ b)) else none
 | _ => none
noncomputable def ints2 (x y : PyData) (f : Int -> Int -> Option PyData) : Option PyData := (intOf x).bind fun a => (intOf y).bind fun b => f a b
noncomputable def binD (op : Operator) (x y : PyData) : Option PyData := match op with
 | .Add => addD x y
 | .Sub => ints2 x y fun a b => if smallI a && smallI b then some (.int (a - b)) else none
 | .Mult => ints2 x y fun a b => if smallI a && smallI b then some (.int (a * b)) else none
 | .FloorDiv => ints2 x y fun a b => if smallI a && decide (0 < b) && decide (b < 1000) then some (.int (a / b)) else none
 | .Mod => ints2 x y fun a b => if decide (0 < b) && smallI b then some (.int (a % b)) else none
 | _ => none
noncomputable def okD (x : PyData) : Bool := x.canLay0 && decide (x.depth <= 60)
noncomputable def ltD (x y : PyData) : Option Bool := match x with
 | .int a => (intOf y).bind fun b => some (decide (a < b))
 | .str a => (strOf y).bind fun b => some (decide (a.cps.toList < b.cps.toList))
 | _ => none
noncomputable def lexD : List PyData -> List PyData -> Option Bool
 | [], ys => some !ys.isEmpty
 | x :: xs, ys => (match ys with
   | [] => some false
   | y :: ys => (ltD x y).bind fun b => if PyData.eqv x y then lexD xs ys else some b)
noncomputable def lessD (x y : PyData) : Option Bool := match x with
 | .int a => (intOf y).bind fun b => some (decide (a < b))
 | .tuple a => (tupOf y).bind fun b => if okD x && okD y then lexD a b else none
 | .list a => (listOf y).bind fun b => if okD x && okD y then lexD a b else none
 | _ => none
noncomputable def dictO (o : MO) : Option (List (PyData × PyData)) := match o with
 | .dict l => some l
 | _ => none
noncomputable def dictOf? (μ : Sto) (v : V) : Option (List (PyData × PyData)) := match v with
 | .dict l => some l
 | .obj i => (μ[i]?).bind dictO
 | _ => none
noncomputable def isStrD (x : PyData) : Bool := (strOf x).isSome
noncomputable def strB (x : PyData) : Bool := match strOf x with
 | some s => PyData.strOk s
 | none => false
noncomputable def tsD : Nat -> PyData -> Bool
 | 0, x => strB x
 | n + 1, x => (match tupOf x with
   | some xs => xs.all (tsD n)
   | none => strB x)
noncomputable def tsAll (n : Nat) (xs : List PyData) : Bool := xs.all (tsD n)
noncomputable def isTupD (x : PyData) : Bool := (tupOf x).isSome
noncomputable def strKeys (l : List (PyData × PyData)) : Bool := l.all fun p => isStrD p.1
noncomputable def tupKeys (l : List (PyData × PyData)) : Bool := l.all fun p => isTupD p.1
noncomputable def askOk (k : PyData) (l : List (PyData × PyData)) : Bool :=
 (isStrD k && strKeys l) || (isTupD k && tsD 6 k && tupKeys l)
noncomputable def eqD (x y : PyData) : Option Bool := if okD x && okD y then some (PyData.eqv x y) else none
noncomputable def inTab (x : PyData) (l : List (PyData × PyData)) : Option Bool := if askOk x l then some (Spec.lookup x l).isSome else none
noncomputable def inM (μ : Sto) (x : PyData) (b : V) : Option Bool := match b with
 | .d y => (listOf y).bind fun ys => if okD x && okD y then some (ys.any fun y => PyData.eqv y x) else none
 | _ => (dictOf? μ b).bind (inTab x)
noncomputable def cmpM (μ : Sto) (op : CmpOp) (a b : V) : Option Bool := (datOf a).bind fun x => match op with
 | .Eq => (datOf b).bind (eqD x)
 | .NotEq => notO ((datOf b).bind (eqD x))
 | .Lt => (datOf b).bind fun y => lessD x y
 | .Gt => (datOf b).bind fun y => lessD y x
 | .In => inM μ x b
 | .NotIn => notO (inM μ x b)
 | _ => none
noncomputable def evsM (ev : Expr -> Sto -> Option (V × Sto)) : List Expr -> Sto -> Option (List V × Sto)
 | [], μ => some ([], μ)
 | e :: r, μ => (ev e μ).bind fun v => (evsM ev r v.2).bind fun vs => some (v.1 :: vs.1, vs.2)
noncomputable def dataM : List V -> Option (List PyData)
 | [] => some []
 | v :: r => (datOf v).bind fun x => (dataM r).bind fun xs => some (x :: xs)
noncomputable def isOr (op : BoolOp) : Bool := match op with
 | .And => false
 | .Or => true
noncomputable def boolK (op : BoolOp) (v : V) (μ : Sto) (k : Option (V × Sto)) : Option (V × Sto) := (boolOf v).bind fun b => if b == isOr op then some (v, μ) else k
noncomputable def boolM (ev : Expr -> Sto -> Option (V × Sto)) (op : BoolOp) : List Expr -> Sto -> Option (V × Sto)
 | [], _ => none
 | x :: r, μ => if r.isEmpty then ev x μ else (ev x μ).bind fun v => boolK op v.1 v.2 (boolM ev op r v.2)
noncomputable def allM (tr : Expr -> Sto -> Option (Bool × Sto)) (op : BoolOp) : List Expr -> Sto -> Option (Bool × Sto)
 | [], μ => some (!isOr op, μ)
 | x :: r, μ => (tr x μ).bind fun b => if b.1 == isOr op then some b else allM tr op r b.2
noncomputable def mutDisplay (elts : List Expr) : Bool := elts.any fun e => Nat.beq e.ctorIdx 25 || Nat.beq e.ctorIdx 8
noncomputable def isSetE (e : Expr) : Bool := Nat.beq e.ctorIdx 7
noncomputable def okK (c : Bool) (k : NameKind) : Bool := match k with
 | .local => true
 | .cell => c
 | _ => false
noncomputable def okN (sc : Scope) (c : Bool) (n : Str) : Bool := match sc.names.lookup n with
 | some k => okK c k
 | none => false
noncomputable def two {α : Type} (l : List α) : Option (α × α) := match l with
 | [] => none
 | a :: l => (match l with
   | [] => none
   | b :: l => if l.isEmpty then some (a, b) else none)
noncomputable def namesE (q : Expr × Expr) : Option (Str × Str) := (nameOf q.1).bind fun a => (nameOf q.2).bind fun b => some (a, b)
noncomputable def pairE (e : Expr) : Option (Str × Str) := ((tupE e).bind two).bind namesE
noncomputable def bindP (sc : Scope) (c : Bool) (ρ : Loc) (a b : Str) (q : PyData × PyData) : Option Loc :=
 if a != b && okN sc c a && okN sc c b && (c || ((ρ.lookup a).isNone && (ρ.lookup b).isNone)) then some (setL b (.d q.2) (setL a (.d q.1) ρ)) else none
noncomputable def bindT (sc : Scope) (c : Bool) (t : Expr) (x : PyData) (ρ : Loc) : Option Loc := match nameOf t with
 | some n => if okN sc c n && (c || (ρ.lookup n).isNone) then some (setL n (.d x) ρ) else none
 | none => (pairE t).bind fun ab => ((tupOf x).bind two).bind (bindP sc c ρ ab.1 ab.2)
noncomputable def dropL (sc : Scope) (ρ : Loc) : Loc := ρ.filter fun p => !(sc.names.lookup p.1 == some .local)
noncomputable def compK (fm : Fm) (p : Str × NameKind) : Bool := match p.2 with
 | .local => true
 | .globalImplicit => true
 | .free => (fm.loc.lookup p.1).isSome && (fm.sc.names.lookup p.1 == some .cell || fm.sc.names.lookup p.1 == some .free)
 | _ => false
noncomputable def compOk (sc : Scope) (fm : Fm) : Bool := sc.kind == .function && sc.names.all fun p => sc.names.lookup p.1 == some p.2 && p.1 != ("__classdict__" : Str) && compK fm p
noncomputable def isPairT (e : Expr) : Bool := (pairE e).isSome
noncomputable def zipD : List PyData -> List PyData -> List PyData
 | [], _ => []
 | x :: xs, ys => (match ys with
   | [] => []
   | y :: ys => .tuple [x, y] :: zipD xs ys)
noncomputable def enumD : Nat -> List PyData -> List PyData
 | _, [] => []
 | k, x :: xs => .tuple [.int k, x] :: enumD (k + 1) xs
noncomputable def rangeD : Nat -> Nat -> List PyData
 | 0, _ => []
 | n + 1, k => .int k :: rangeD n (k + 1)
noncomputable def seqD (x : PyData) : Option (List PyData) := match x with
 | .list l => some l
 | .tuple l => some l
 | _ => none
noncomputable def seqOf (v : V) : Option (List PyData) := (datOf v).bind seqD
noncomputable def one {α : Type} (l : List α) : Option α := match l with
 | [] => none
 | a :: l => if l.isEmpty then some a else none
noncomputable def lazyZip (args : List V) : Option (Bool × List PyData) := (two args).bind fun q => ((datOf q.1).bind tupOf).bind fun a => ((datOf q.2).bind tupOf).bind fun b => some (true, zipD a b)
noncomputable def lazyEnum (args : List V) : Option (Bool × List PyData) := (one args).bind fun v => ((datOf v).bind tupOf).bind fun a => some (true, enumD 0 a)
noncomputable def lazyRange (args : List V) : Option (Bool × List PyData) := (one args).bind fun v => ((datOf v).bind intOf).bind fun n => if decide (0 <= n) && decide (n <= 1000) then some (false, rangeD n.toNat 0) else none
noncomputable def tyOf (g : V) : Option String := match g with
 | .con x => (match x with
   | .type x => some x
   | _ => none)
 | _ => none
noncomputable def lazyN (x : String) (args : List V) : Option (Bool × List PyData) := if x == "zip" then lazyZip args else if x == "enumerate" then lazyEnum args else if x == "range" then lazyRange args else none
noncomputable def lazyM (g : V) (args : List V) : Option (Bool × List PyData) := (tyOf g).bind fun x => lazyN x args
noncomputable def isLazy (g : V) : Bool := match tyOf g with
 | some x => x == "zip" || x == "enumerate" || x == "range"
 | none => false
noncomputable def plainIter (r : Rec) (fm : Fm) (e : Expr) (μ : Sto) : Option ((Bool × List PyData) × Sto) :=
 (r.ev fm e μ).bind fun v => (seqOf v.1).bind fun l => some ((false, l), v.2)
noncomputable def iterM (P : Par) (r : Rec) (fm : Fm) (e : Expr) (μ : Sto) : Option ((Bool × List PyData) × Sto) :=
 match callN e with
 | some q => (nameM P fm q.1).bind fun g => if isLazy g then (evsM (r.ev fm) q.2 μ).bind fun vs => (lazyM g vs.1).bind fun l => some (l, vs.2)
     else plainIter r fm e μ
 | none => if isSetE e then none else plainIter r fm e μ
noncomputable def testsM (tr : Expr -> Sto -> Option (Bool × Sto)) : List Expr -> Sto -> Option (Bool × Sto)
 | [], μ => some (true, μ)
 | c :: cs, μ => (tr c μ).bind fun b => if b.1 then testsM tr cs b.2 else some (false, b.2)
noncomputable def compM (r : Rec) (fm : Fm) (elt tgt : Expr) (ifs : List Expr) : List PyData -> Sto -> Option (List PyData × Sto)
 | [], μ => some ([], μ)
 | x :: xs, μ => (bindT fm.sc false tgt x fm.loc).bind fun ρ => (testsM (r.tr ⟨fm.sc, ρ⟩) ifs μ).bind fun t =>
   if t.1 then (r.ev ⟨fm.sc, ρ⟩ elt t.2).bind fun v => (datOf v.1).bind fun y => (compM r fm elt tgt ifs xs v.2).bind fun q => some (y :: q.1, q.2)
   else compM r fm elt tgt ifs xs t.2
noncomputable def apart (t : Expr) (l : Bool × List PyData) : Bool := l.1 && !isPairT t
noncomputable def compM2 (P : Par) (r : Rec) (fm : Fm) (elt tgt : Expr) (ifs : List Expr) (tgt2 it2 : Expr) (ifs2 : List Expr) : List PyData -> Sto -> Option (List PyData × Sto)
 | [], μ => some ([], μ)
 | x :: xs, μ => (bindT fm.sc false tgt x fm.loc).bind fun ρ => (testsM (r.tr ⟨fm.sc, ρ⟩) ifs μ).bind fun t =>
   if t.1 then (iterM P r ⟨fm.sc, ρ⟩ it2 t.2).bind fun l => if apart tgt2 l.1 then none else
     (compM r ⟨fm.sc, ρ⟩ elt tgt2 ifs2 l.1.2 l.2).bind fun y => (compM2 P r fm elt tgt ifs tgt2 it2 ifs2 xs y.2).bind fun z => some (y.1 ++ z.1, z.2)
   else compM2 P r fm elt tgt ifs tgt2 it2 ifs2 xs t.2
noncomputable def smallLen (l : List PyData) : Bool := decide (l.length <= 100000)
noncomputable def listEnd (y : List PyData × Sto) : Option (V × Sto) := if smallLen y.1 then some (.d (.list y.1), y.2) else none
noncomputable def listComp1 (P : Par) (r : Rec) (fm : Fm) (elt : Expr) (g : Comprehension) (sc : Scope) (μ : Sto) : Option (V × Sto) :=
 (iterM P r fm g.iter μ).bind fun l => if apart g.target l.1 then none else
   (compM r ⟨sc, dropL sc fm.loc⟩ elt g.target g.ifs l.1.2 l.2).bind listEnd
noncomputable def listComp2 (P : Par) (r : Rec) (fm : Fm) (elt : Expr) (g g2 : Comprehension) (sc : Scope) (μ : Sto) : Option (V × Sto) :=
 (iterM P r fm g.iter μ).bind fun l => if apart g.target l.1 then none else
   (compM2 P r ⟨sc, dropL sc fm.loc⟩ elt g.target g.ifs g2.target g2.iter g2.ifs l.1.2 l.2).bind listEnd
noncomputable def objOf (v : V) : Option Nat := match v with
 | .obj i => some i
 | _ => none
noncomputable def dicOf (v : V) : Option (List (PyData × PyData)) := match v with
 | .dict l => some l
 | _ => none
noncomputable def instOf (v : V) : Option (Addr × Nat) := match v with
 | .inst C j => some (C, j)
 | _ => none
noncomputable def listO (o : MO) : Option (List PyData) := match o with
 | .list l => some l
 | _ => none
noncomputable def attrsO (o : MO) : Option (List (Str × V)) := match o with
 | .attrs l => some l
 | _ => none
noncomputable def listCompM (P : Par) (r : Rec) (fm : Fm) (elt : Expr) (gens : List Comprehension) (sc : Scope) (μ : Sto) : Option (V × Sto) :=
 if !compOk sc fm then none else
 match gens with
 | [] => none
 | g :: gs => if g.is_async = 0 then (match gs with
   | [] => listComp1 P r fm elt g sc μ
   | g2 :: gs => if !gs.isEmpty || isSetE g2.iter then none else if g2.is_async = 0 then listComp2 P r fm elt g g2 sc μ else none) else none
noncomputable def nthD (l : List PyData) (i : Int) : Option PyData := if decide (0 <= i) && decide (i < l.length) && decide (i < 1000000) then l[i.toNat]? else none
noncomputable def chr1 (x : Str) : Option V := (x.cps[0]?).bind fun c => some (.d (.str ⟨#[c]⟩))
noncomputable def nthV (l : List PyData) (k : PyData) : Option V := (intOf k).bind fun i => (nthD l i).map .d
noncomputable def itemT (k : PyData) (l : List (PyData × PyData)) : Option V := if askOk k l then (Spec.lookup k l).map .d else none
noncomputable def itemD (x k : PyData) : Option V := match x with
 | .tuple l => nthV l k
 | .list l => nthV l k
 | .str x => (intOf k).bind fun i => if decide (i = 0) then chr1 x else none
 | _ => none
noncomputable def itemM (μ : Sto) (c k : V) : Option V := (datOf k).bind fun k => match c with
 | .d x => itemD x k
 | .obj j => (μ[j]?).bind fun m => (match m with
   | .list l => (match intOf k with
     | some i => (nthD l i).map .d
     | none => none)
   | _ => (dictO m).bind (itemT k))
 | _ => (dictOf? μ c).bind (itemT k)
noncomputable def isI (n : Int) (o : Option V) : Bool := match (o.bind datOf).bind intOf with
 | some i => i == n
 | none => false
noncomputable def isN (o : Option V) : Bool := o.isNone
noncomputable def sliceD (x : PyData) (lo hi st : Option V) : Option V := match x with
 | .tuple l => if isI 1 lo && isN hi && isN st && (decide (1 <= l.length) && smallLen l) then some (.d (.tuple (l.drop 1))) else none
 | .str x => if isN lo && isI 1 hi && isN st && decide (x.cps.size <= 100000) then some (.d (.str ⟨(x.cps.toList.take 1).toArray⟩)) else none
 | .list l => if isN lo && isI 40 hi && isN st && smallLen l then some (.d (.list (l.take 40))) else if isN lo && isN hi && isI (-1) st && smallLen l then some (.d (.list l.reverse)) else none
 | _ => none
noncomputable def sliceM (o : V) (lo hi st : Option V) : Option V := (datOf o).bind fun x => sliceD x lo hi st
noncomputable def optM (ev : Expr -> Sto -> Option (V × Sto)) (e : Option Expr) (μ : Sto) : Option (Option V × Sto) := match e with
 | none => some (none, μ)
 | some e => (ev e μ).bind fun v => some (some v.1, v.2)
noncomputable def kRanks : Str := "ranks"
noncomputable def kKnown : Str := "known"
noncomputable def kWeights : Str := "weights"
noncomputable def isRefV (v : V) : Bool := match v with
 | .obj _ => true
 | .dict _ => true
 | _ => false
noncomputable def isK (n : Str) : Bool := n == kRanks || n == kKnown || n == kWeights
noncomputable def attrM (P : Par) (μ : Sto) (v : V) (n : Str) : Option V := (instOf v).bind fun q => ((μ[q.2]?).bind attrsO).bind fun l => (l.lookup n).bind fun u =>
 if P.cls q.1 && (n == kRanks || n == kKnown || n == kWeights) && isRefV u then some u else none
noncomputable def plainBase (e : Expr) : Bool := Nat.beq e.ctorIdx 23 || (match attrE e with
 | some q => Nat.beq q.1.ctorIdx 23
 | none => false)
noncomputable def okMeth (o : Expr) (apos pos : Pos) (args : List Expr) : Bool := plainBase o && (apos.endLine == pos.line) && decide (args.length < 30)
noncomputable def preI (P : Par) (μ : Sto) (q : Addr × Nat) (n : Str) : Bool := match (μ[q.2]?).bind attrsO with
 | some l => (P.meth q.1 n).isSome && (l.lookup n).isNone
 | none => false
noncomputable def preB (μ : Sto) (v : V) (n : Str) : Bool :=
 if n == ("get" : Str) then (match dictOf? μ v with
   | some l => strKeys l
   | none => false)
 else if n == ("extend" : Str) then ((objOf v).bind fun i => (μ[i]?).bind listO).isSome
 else if n == ("count" : Str) then ((datOf v).bind listOf).isSome
 else false
noncomputable def preM (P : Par) (μ : Sto) (v : V) (n : Str) : Bool := match instOf v with
 | some q => preI P μ q n
 | none => preB μ v n
noncomputable def mGet (μ : Sto) (v : V) (args : List V) : Option (V × Sto) := (two args).bind fun q => (datOf q.1).bind fun k => ((datOf q.2).bind intOf).bind fun y => (dictOf? μ v).bind fun l =>
 if isStrD k && strKeys l then some (.d ((Spec.lookup k l).getD (.int y)), μ) else none
noncomputable def mExt (μ : Sto) (v : V) (args : List V) : Option (V × Sto) := (one args).bind fun a => (objOf v).bind fun i => ((datOf a).bind listOf).bind fun ys => ((μ[i]?).bind listO).bind fun l =>
 if smallLen (l ++ ys) then some (.d .none, μ.set i (.list (l ++ ys))) else none
noncomputable def mCount (μ : Sto) (v : V) (args : List V) : Option (V × Sto) := (one args).bind fun a => ((datOf v).bind listOf).bind fun l => ((datOf a).bind strOf).bind fun x =>
 if l.all isStrD then some (.d (.int (Spec.countIn (.str x) l)), μ) else none
noncomputable def methM (μ : Sto) (v : V) (n : Str) (args : List V) : Option (V × Sto) :=
 if n == ("get" : Str) then mGet μ v args
 else if n == ("extend" : Str) then mExt μ v args
 else if n == ("count" : Str) then mCount μ v args
 else none
noncomputable def sumD : List PyData -> Option Int
 | [] => some 0
 | x :: r => (intOf x).bind fun i => (sumD r).bind fun s => if smallI i then some (i + s) else none
noncomputable def ord2 (a b : Str) : List PyData := if decide (b.cps.toList < a.cps.toList) then [.str b, .str a] else [.str a, .str b]
noncomputable def sort2 (l : List (PyData × PyData)) : Option (List PyData) := match l with
 | [] => some []
 | p :: l => (strOf p.1).bind fun a => (match l with
   | [] => some [.str a]
   | q :: l => (strOf q.1).bind fun b => if l.isEmpty then some (ord2 a b) else none)
noncomputable def bLen (μ : Sto) (v : V) : Option (V × Sto) := match v with
 | .d x => (seqD x).bind fun l => if smallLen l then some (.d (.int l.length), μ) else none
 | .obj i => ((μ[i]?).bind dictO).bind fun l => if tupKeys l && decide (l.length <= 100000) then some (.d (.int l.length), μ) else none
 | _ => none
noncomputable def bSum (μ : Sto) (v : V) : Option (V × Sto) := ((datOf v).bind listOf).bind fun l => (sumD l).bind fun s => if smallLen l then some (.d (.int s), μ) else none
noncomputable def bSorted (μ : Sto) (v : V) : Option (V × Sto) := (dictOf? μ v).bind fun l => (sort2 l).bind fun ys => some (.d (.list ys), μ)
noncomputable def tInt (μ : Sto) (v : V) : Option (V × Sto) := ((datOf v).bind intOf).bind fun i => some (.d (.int i), μ)
noncomputable def tTuple (μ : Sto) (v : V) : Option (V × Sto) := ((datOf v).bind listOf).bind fun l => if smallLen l then some (.d (.tuple l), μ) else none
noncomputable def tDict (μ : Sto) (v : V) : Option (V × Sto) := (objOf v).bind fun i => ((μ[i]?).bind dictO).bind fun l => if strKeys l && decide (l.length <= 1000) then some (.dict l, μ) else none
noncomputable def builtin1 (μ : Sto) (f : Value) (v : V) : Option (V × Sto) := match f with
 | .builtin x => if x == "len" then bLen μ v else if x == "sum" then bSum μ v else if x == "sorted" then bSorted μ v else none
 | .type x => if x == "int" then tInt μ v else if x == "tuple" then tTuple μ v else if x == "dict" then tDict μ v else none
 | _ => none
noncomputable def builtinM (μ : Sto) (f : Value) (args : List V) : Option (V × Sto) := (one args).bind fun v => builtin1 μ f v
noncomputable def frz (i : Nat) (o : MO) (μ : Sto) : V × Sto := match o with
 | .list l => (.d (.list l), μ.set i .dead)
 | .dict l => (.dict l, μ.set i .dead)
 | _ => (.obj i, μ)
noncomputable def freeze (n : Nat) (v : V) (μ : Sto) : V × Sto := match objOf v with
 | some i => if n <= i then (match μ[i]? with
   | some o => frz i o μ
   | none => (v, μ)) else (v, μ)
 | none => (v, μ)
noncomputable def ctorL (C : Addr) (args : List V) (μ : Sto) : Option (V × Sto) := (one args).bind fun v => (dicOf v).bind fun r =>
 some (.inst C μ.length, μ ++ [.attrs [(kRanks, .dict r), (kKnown, .obj (μ.length + 1))], .dict []])
noncomputable def ctorH (C : Addr) (args : List V) (μ : Sto) : Option (V × Sto) := (two args).bind fun q => (objOf q.1).bind fun i => (dicOf q.2).bind fun r => ((μ[i]?).bind dictO).bind fun l =>
 if l.isEmpty then some (.inst C μ.length, μ ++ [.attrs [(kRanks, .dict r), (kKnown, .obj (μ.length + 1)), (kWeights, .obj i)], .dict []]) else none
noncomputable def ctorM (heavy : Bool) (C : Addr) (args : List V) (μ : Sto) : Option (V × Sto) := if heavy then ctorH C args μ else ctorL C args μ
noncomputable def fnEnd (m : Nat) (x : Flw × Loc × Sto) : Option (V × Sto) := match x.1 with
 | .next => some (.d .none, x.2.2)
 | .ret v => some (freeze m v x.2.2)
noncomputable def callF (r : Rec) (fi : FnI) (args : List V) (μ : Sto) : Option (V × Sto) := if fi.params.length == args.length then (r.exs fi.sc fi.body (fi.params.zip args) μ).bind (fnEnd μ.length) else none
noncomputable def callR (P : Par) (r : Rec) (a : Addr) (args : List V) (μ : Sto) : Option (V × Sto) := match P.fn a with
 | some fi => callF r fi args μ
 | none => (P.ctor a).bind fun h => ctorM h a args μ
noncomputable def callV (P : Par) (r : Rec) (g : Value) (args : List V) (μ : Sto) : Option (V × Sto) := match g with
 | .ref a => callR P r a args μ
 | g => builtinM μ g args
noncomputable def callM (P : Par) (r : Rec) (f : V) (args : List V) (μ : Sto) : Option (V × Sto) := match f with
 | .con g => callV P r g args μ
 | _ => none
noncomputable def callMeth (P : Par) (r : Rec) (ov : V) (name : Str) (vs : List V) (μ : Sto) : Option (V × Sto) := match instOf ov with
 | some q => (P.meth q.1 name).bind fun f => r.call (.con (.ref f)) (ov :: vs) μ
 | none => methM μ ov name vs
noncomputable def cmpE {α : Type} (r : Rec) (fm : Fm) (l : Expr) (op : CmpOp) (x : Expr) (μ : Sto) (k : Bool -> Sto -> α) : Option α := if behindInMarks op x then none else
 (r.ev fm l μ).bind fun a => (r.ev fm x a.2).bind fun b => (cmpM b.2 op a.1 b.1).bind fun c => some (k c b.2)
noncomputable def evCall (P : Par) (r : Rec) (fm : Fm) (f : Expr) (args : List Expr) (pos : Pos) (μ : Sto) : Option (V × Sto) := match attrE f with
 | some q => if okMeth q.1 q.2.2 pos args then (r.ev fm q.1 μ).bind fun ov => if preM P ov.2 ov.1 q.2.1 then (evsM (r.ev fm) args ov.2).bind fun vs => callMeth P r ov.1 q.2.1 vs.1 vs.2 else none else none
 | none => (nameOf f).bind fun x => (nameM P fm x).bind fun g => (evsM (r.ev fm) args μ).bind fun vs => r.call g vs.1 vs.2
noncomputable def evSub (r : Rec) (fm : Fm) (v i : Expr) (μ : Sto) : Option (V × Sto) := match sliceE i with
 | some q => (r.ev fm v μ).bind fun o => (optM (r.ev fm) q.1 o.2).bind fun a => (optM (r.ev fm) q.2.1 a.2).bind fun b => (optM (r.ev fm) q.2.2 b.2).bind fun c => (sliceM o.1 a.1 b.1 c.1).bind fun x => some (x, c.2)
 | none => (r.ev fm v μ).bind fun o => (r.ev fm i o.2).bind fun k => (itemM k.2 o.1 k.1).bind fun x => some (x, k.2)
noncomputable def evBin (r : Rec) (fm : Fm) (l : Expr) (op : Operator) (x : Expr) (μ : Sto) : Option (V × Sto) := (r.ev fm l μ).bind fun a => (r.ev fm x a.2).bind fun b =>
 (datOf a.1).bind fun u => (datOf b.1).bind fun w => (binD op u w).bind fun c => some (.d c, b.2)
noncomputable def evNeg (r : Rec) (fm : Fm) (op : UnaryOp) (x : Expr) (μ : Sto) : Option (V × Sto) := match op with
 | .USub => (r.ev fm x μ).bind fun a => ((datOf a.1).bind intOf).bind fun i => if smallI i then some (.d (.int (-i)), a.2) else none
 | _ => none
noncomputable def evRow (r : Rec) (fm : Fm) (elts : List Expr) (μ : Sto) (k : List PyData -> Sto -> V × Sto) : Option (V × Sto) := if decide (elts.length < 100) then
 (evsM (r.ev fm) elts μ).bind fun vs => (dataM vs.1).bind fun xs => some (k xs vs.2) else none
noncomputable def stepEv (P : Par) (r : Rec) (fm : Fm) (e : Expr) (μ : Sto) : Option (V × Sto) := match e with
 | .Constant c _ _ => (constM c).bind fun v => some (v, μ)
 | .Name x _ => (nameM P fm x).bind fun v => some (v, μ)
 | .BoolOp op vs _ => boolM (r.ev fm) op vs μ
 | .BinOp l op x _ => evBin r fm l op x μ
 | .UnaryOp op x _ => evNeg r fm op x μ
 | .IfExp t b o _ => (r.tr fm t μ).bind fun c => if c.1 then r.ev fm b c.2 else r.ev fm o c.2
 | .Dict ks vs _ => if ks.isEmpty && vs.isEmpty then some (.obj μ.length, μ ++ [.dict []]) else none
 | .List elts _ => evRow r fm elts μ fun xs μ => if mutDisplay elts then (.obj μ.length, μ ++ [.list xs]) else (.d (.list xs), μ)
 | .Tuple elts _ _ => evRow r fm elts μ fun xs μ => (.d (.tuple xs), μ)
 | .ListComp elt gens sc _ => listCompM P r fm elt gens sc μ
 | .Compare l ops xs _ => (one ops).bind fun op => (one xs).bind fun x => cmpE r fm l op x μ fun c μ => (.d (.bool c), μ)
 | .Call f args ks pos => if ks.isEmpty then evCall P r fm f args pos μ else none
 | .Attribute o name _ => if plainBase o then (r.ev fm o μ).bind fun ov => (attrM P ov.2 ov.1 name).bind fun v => some (v, ov.2) else none
 | .Subscript v i _ => evSub r fm v i μ
 | _ => none
noncomputable def stepTr (r : Rec) (fm : Fm) (e : Expr) (μ : Sto) : Option (Bool × Sto) := match e with
 | .UnaryOp op x _ => (match op with
   | .Not => (r.tr fm x μ).bind fun b => some (!b.1, b.2)
   | _ => none)
 | .BoolOp op vs _ => allM (r.tr fm) op vs μ
 | .Compare l ops xs _ => (one ops).bind fun op => (one xs).bind fun x => cmpE r fm l op x μ fun c μ => (c, μ)
 | .Call f args kws p => (r.ev fm (.Call f args kws p) μ).bind fun v => (boolOf v.1).bind fun b => some (b, v.2)
 | _ => none
noncomputable abbrev FX := Option (Flw × Loc × Sto)
noncomputable def thenF (x : Flw × Loc × Sto) (k : Loc -> Sto -> FX) : FX := match x.1 with
 | .next => k x.2.1 x.2.2
 | .ret v => some (.ret v, x.2.1, x.2.2)
noncomputable def forM (r : Rec) (sc : Scope) (tgt : Expr) (body : List Stmt) : List PyData -> Loc -> Sto -> Option (Flw × Loc × Sto)
 | [], ρ, μ => some (.next, ρ, μ)
 | x :: xs, ρ, μ => (bindT sc true tgt x ρ).bind fun ρ => (r.exs sc body ρ μ).bind fun q => thenF q fun ρ μ => forM r sc tgt body xs ρ μ
noncomputable def whileM (r : Rec) (sc : Scope) (test : Expr) (body : List Stmt) : Nat -> Loc -> Sto -> Option (Flw × Loc × Sto)
 | 0, _, _ => none
 | n + 1, ρ, μ => (r.tr ⟨sc, ρ⟩ test μ).bind fun b => if b.1 then (r.exs sc body ρ b.2).bind fun q => thenF q fun ρ μ => whileM r sc test body n ρ μ
   else some (.next, ρ, b.2)
noncomputable def bindAll (sc : Scope) : List Expr -> List V -> Loc -> Option Loc
 | [], vs, ρ => if vs.isEmpty then some ρ else none
 | t :: ts, vs, ρ => (match vs with
   | v :: vs => (nameOf t).bind fun n => if okN sc true n then bindAll sc ts vs (setL n v ρ) else none
   | [] => none)
noncomputable def targetNames : List Expr -> Option (List Str)
 | [] => some []
 | t :: r => (nameOf t).bind fun n => (targetNames r).bind fun l => some (n :: l)
noncomputable def distinct : List Str -> Bool
 | [] => true
 | x :: r => !r.contains x && distinct r
noncomputable def isFlatD (x : PyData) : Bool := match x with
 | .int _ => true
 | .bool _ => true
 | _ => false
noncomputable def isSDC (e : Expr) : Bool := Nat.beq e.ctorIdx 9 || Nat.beq e.ctorIdx 10
noncomputable def isCallE (e : Expr) : Bool := Nat.beq e.ctorIdx 16
noncomputable def isNoneD (x : PyData) : Bool := match x with
 | .none => true
 | _ => false
noncomputable def storeO (μ : Sto) (i : Nat) (m : MO) (k v : PyData) : Option Sto := match m with
 | .list l => (intOf k).bind fun n => if decide (0 <= n) && decide (n < l.length) && decide (n < 1000000) then some (μ.set i (.list (l.set n.toNat v))) else none
 | .dict l => if askOk k l && isFlatD v && decide (l.length <= 100000) then some (μ.set i (.dict (PyProof.V.putD k v l))) else none
 | _ => none
noncomputable def storeM (μ : Sto) (o k v : V) : Option Sto := (objOf o).bind fun i => (datOf k).bind fun k => (datOf v).bind fun v => (μ[i]?).bind fun m => storeO μ i m k v
noncomputable def turns : Nat := 5000
noncomputable def setAttrM (P : Par) (μ : Sto) (ov : V) (name : Str) (v : V) : Option Sto := (instOf ov).bind fun q => ((μ[q.2]?).bind attrsO).bind fun l =>
 if P.cls q.1 && (name == kRanks || name == kKnown || name == kWeights) && isRefV v && (l.lookup name).isNone && decide (l.length < 5) then some (μ.set q.2 (.attrs (l ++ [(name, v)]))) else none
noncomputable def asgN (sc : Scope) (x : Str) (ρ : Loc) (v : V × Sto) : FX := if okN sc true x then some (.next, setL x v.1 ρ, v.2) else none
noncomputable def asgTT (r : Rec) (sc : Scope) (ts vs : List Expr) (ρ : Loc) (μ : Sto) : FX := (evsM (r.ev ⟨sc, ρ⟩) vs μ).bind fun us => (targetNames ts).bind fun ns =>
 if distinct ns && decide (vs.length < 100) && !vs.all (constantsAlone 8) then (bindAll sc ts us.1 ρ).bind fun ρ => some (.next, ρ, us.2) else none
noncomputable def asgT (sc : Scope) (t : Expr) (ρ : Loc) (v : V × Sto) : FX := (datOf v.1).bind fun x => (bindT sc true t x ρ).bind fun ρ => some (.next, ρ, v.2)
noncomputable def asgI (r : Rec) (sc : Scope) (o i : Expr) (ρ : Loc) (v : V × Sto) : FX := (r.ev ⟨sc, ρ⟩ o v.2).bind fun ov => (r.ev ⟨sc, ρ⟩ i ov.2).bind fun k => (storeM k.2 ov.1 k.1 v.1).bind fun μ => some (.next, ρ, μ)
noncomputable def asgA (P : Par) (r : Rec) (sc : Scope) (o : Expr) (name : Str) (ρ : Loc) (v : V × Sto) : FX := (r.ev ⟨sc, ρ⟩ o v.2).bind fun ov => (setAttrM P ov.2 ov.1 name v.1).bind fun μ => some (.next, ρ, μ)
noncomputable def asgM (P : Par) (r : Rec) (sc : Scope) (t e : Expr) (ρ : Loc) (μ : Sto) : FX := match nameOf t with
 | some x => (match lcE e with
   | some q => (listCompM P r ⟨sc, ρ⟩ q.1 q.2.1 q.2.2 μ).bind (asgN sc x ρ)
   | none => if isSDC e then none else (r.ev ⟨sc, ρ⟩ e μ).bind (asgN sc x ρ))
 | none => (match tupE t with
   | some ts => (match tupE e with
     | some vs => asgTT r sc ts vs ρ μ
     | none => (r.ev ⟨sc, ρ⟩ e μ).bind (asgT sc t ρ))
   | none => (match subE t with
     | some q => (r.ev ⟨sc, ρ⟩ e μ).bind (asgI r sc q.1 q.2 ρ)
     | none => (attrE t).bind fun q => (r.ev ⟨sc, ρ⟩ e μ).bind (asgA P r sc q.1 q.2.1 ρ)))
noncomputable def stepEx (P : Par) (r : Rec) (sc : Scope) (st : Stmt) (ρ : Loc) (μ : Sto) : Option (Flw × Loc × Sto) := match st with
 | .Assign ts e _ => (one ts).bind fun t => asgM P r sc t e ρ μ
 | .If t b o _ => (r.tr ⟨sc, ρ⟩ t μ).bind fun c => if c.1 then r.exs sc b ρ c.2 else r.exs sc o ρ c.2
 | .For tgt it body els _ => if els.isEmpty then (iterM P r ⟨sc, ρ⟩ it μ).bind fun l => if apart tgt l.1 then none else forM r sc tgt body l.1.2 ρ l.2 else none
 | .While t body els _ => if els.isEmpty then whileM r sc t body turns ρ μ else none
 | .Return v _ => v.bind fun e => (r.ev ⟨sc, ρ⟩ e μ).bind fun v => some (.ret v.1, ρ, v.2)
 | .Expr e _ => if isCallE e then (r.ev ⟨sc, ρ⟩ e μ).bind fun v => (datOf v.1).bind fun x => if isNoneD x then some (.next, ρ, v.2) else none else none
 | _ => none
noncomputable def stepExs (P : Par) (r : Rec) (sc : Scope) : List Stmt -> Loc -> Sto -> Option (Flw × Loc × Sto)
 | [], ρ, μ => some (.next, ρ, μ)
 | s :: rest, ρ, μ => (stepEx P r sc s ρ μ).bind fun q => thenF q fun ρ μ => stepExs P r sc rest ρ μ
noncomputable def Lvl (P : Par) : Nat -> Rec
 | 0 => ⟨fun _ _ _ => none, fun _ _ _ => none, fun _ _ _ _ => none, fun _ _ _ => none⟩
 | n + 1 => ⟨stepEv P (Lvl P n), stepTr (Lvl P n), stepExs P (Lvl P n), callM P (Lvl P n)⟩
end Mine
end
section
namespace Mine
open PySem
noncomputable def progBody : List Stmt := Challenge.pw_sa0018_01.main.body
noncomputable def stView (st : Stmt) : Option FnI × List Stmt := match st with
 | .FunctionDef _ a b _ _ _ sc _ _ _ => (some ⟨a.args.map (·.arg), b, sc⟩, [])
 | .ClassDef _ _ _ b _ _ _ _ _ _ _ => (none, b)
 | _ => (none, [])
noncomputable def fnOfStmt (st : Stmt) : Option FnI := (stView st).1
noncomputable def clsBodyOf (st : Stmt) : List Stmt := (stView st).2
noncomputable def nthFn (i : Nat) : Option FnI := match progBody.drop i with
 | st :: _ => fnOfStmt st
 | [] => none
noncomputable def nthMeth (i j : Nat) : Option FnI := match progBody.drop i with
 | st :: _ => (match (clsBodyOf st).drop j with
   | st :: _ => fnOfStmt st
   | [] => none)
 | [] => none
noncomputable def headsD : PyData := .tuple [.tuple [.str "a", .int 0], .tuple [.str "b", .int 0], .tuple [.str "h", .int 0], .tuple [.str "?x", .int 0], .tuple [.str "?y", .int 0],
 .tuple [.str "h", .int 0], .tuple [.str "b", .int 2], .tuple [.str "f", .int 1], .tuple [.str "f", .int 2], .tuple [.str "fb", .int 1]]
noncomputable def globT : List (Str × V) := [("is_variable", .con (.ref 62)), ("parts", .con (.ref 67)), ("place_of_op", .con (.ref 74)), ("counted", .con (.ref 81)),
 ("PathOrder", .con (.ref 117)), ("WeightOrder", .con (.ref 150)), ("turned_by", .con (.ref 159)), ("_law_heads", .d headsD), ("_law_sip", .con (.ref 177)),
 ("_law_pattern", .con (.ref 182)), ("_law_inside", .con (.ref 187)), ("_law_head", .con (.ref 194)), ("_law_comes", .con (.ref 199)), ("_law_gathered", .con (.ref 206)),
 ("_law_names", .con (.ref 211)), ("_law_is_heavier", .con (.ref 216)),
 ("len", .con (.builtin "len")), ("enumerate", .con (.type "enumerate")), ("zip", .con (.type "zip")), ("range", .con (.type "range")), ("sorted", .con (.builtin "sorted")),
 ("sum", .con (.builtin "sum")), ("dict", .con (.type "dict")), ("int", .con (.type "int")), ("tuple", .con (.type "tuple"))]
noncomputable def fnTab : List (Addr × Nat × Option Nat) := [(62, 4, none), (67, 5, none), (74, 7, none), (81, 8, none), (95, 9, some 0), (102, 9, some 1), (107, 9, some 2), (114, 9, some 3), (142, 10, some 1), (147, 10, some 2),
 (159, 11, none), (177, 14, none), (182, 15, none), (187, 16, none), (194, 17, none), (199, 18, none), (206, 19, none), (211, 20, none), (216, 21, none), (221, 22, none)]
noncomputable def fnQ (q : Nat × Option Nat) : Option FnI := match q.2 with
 | none => nthFn q.1
 | some j => nthMeth q.1 j
noncomputable def fnT (a : Addr) : Option FnI := (fnTab.lookup a).bind fnQ
noncomputable def methT (C : Addr) (n : Str) : Option Addr :=
 if !(C == 117 || C == 150) then none
 else if n == ("above" : Str) then some 102
 else if n == ("first_above" : Str) then some 114
 else if n == ("is_above" : Str) then (if C == 117 then some 107 else if C == 150 then some 147 else none)
 else if n == ("weight" : Str) then (if C == 150 then some 142 else none)
 else none
noncomputable def ctorT (C : Addr) : Option Bool := if C == 117 then some false else if C == 150 then some true else none
noncomputable def PP : Par := ⟨fun x => globT.lookup x, fnT, methT, ctorT, fun C => C == 117 || C == 150⟩
end Mine
end
section
namespace Mine
open PySem PyProof.Rows
theorem no_some {α : Type} {z : α} {p : Prop} (h : (none : Option α) = some z) : p := nomatch h
theorem some_no {α : Type} {z : α} {p : Prop} (h : some z = none) : p := nomatch h
theorem no_ft {p : Prop} (h : false = true) : p := nomatch h
theorem bind_some {α β : Type} {x : Option α} {f : α -> Option β} {b : β} (h : x.bind f = some b) : ∃ a, x = some a /\ f a = some b := by
 cases x with
 | none => exact no_some h
 | some a => exact ⟨a, rfl, h⟩
theorem inj1 {α : Type} {C : Prop} {a a' : α} (h : some a = some a') (k : a = a' -> C) : C := k (Option.some.inj h)
theorem inj2 {α β : Type} {C : Prop} {a a' : α} {b b' : β} (h : some (a, b) = some (a', b')) (k : a = a' -> b = b' -> C) : C :=
 k (congrArg (·.1) (Option.some.inj h)) (congrArg (·.2) (Option.some.inj h))
theorem inj3 {α β γ : Type} {C : Prop} {a a' : α} {b b' : β} {c c' : γ} (h : some (a, b, c) = some (a', b', c')) (k : a = a' -> b = b' -> c = c' -> C) : C :=
 k (congrArg (·.1) (Option.some.inj h)) (congrArg (·.2.1) (Option.some.inj h)) (congrArg (·.2.2) (Option.some.inj h))
theorem bind1 {α β : Type} {C : Prop} {x : Option α} {f : α -> Option β} {b : β} (h : x.bind f = some b) (k : ∀ a, x = some a -> f a = some b -> C) : C :=
 (bind_some h).elim fun a q => k a q.1 q.2
theorem bind2 {α γ β : Type} {C : Prop} {x : Option (α × γ)} {f : α × γ -> Option β} {b : β} (h : x.bind f = some b) (k : ∀ a c, x = some (a, c) -> f (a, c) = some b -> C) : C :=
 (bind_some h).elim fun a q => k a.1 a.2 q.1 q.2
theorem bind3 {α γ δ β : Type} {C : Prop} {x : Option (α × γ × δ)} {f : α × γ × δ -> Option β} {b : β} (h : x.bind f = some b) (k : ∀ a c d, x = some (a, c, d) -> f (a, c, d) = some b -> C) : C :=
 (bind_some h).elim fun a q => k a.1 a.2.1 a.2.2 q.1 q.2
theorem bind3' {α γ δ β : Type} {C : Prop} {x : Option ((α × γ) × δ)} {f : (α × γ) × δ -> Option β} {b : β} (h : x.bind f = some b) (k : ∀ a c d, x = some ((a, c), d) -> f ((a, c), d) = some b -> C) : C :=
 (bind_some h).elim fun a q => k a.1.1 a.1.2 a.2 q.1 q.2
theorem if_some {α : Type} {C c : Prop} [Decidable c] {a : Option α} {z : α} (h : (if c then a else none) = some z) (k : c -> a = some z -> C) : C := by
 by_cases hc : c
 · rw [if_pos hc] at h; exact k hc h
 · rw [if_neg hc] at h; exact no_some h
theorem if_no {α : Type} {C c : Prop} [Decidable c] {a : Option α} {z : α} (h : (if c then none else a) = some z) (k : ¬c -> a = some z -> C) : C := by
 by_cases hc : c
 · rw [if_pos hc] at h; exact no_some h
 · rw [if_neg hc] at h; exact k hc h
theorem if_or {α : Type} {C c : Prop} [Decidable c] {a b z : α} (h : (if c then a else b) = z) (k : c -> a = z -> C) (l : ¬c -> b = z -> C) : C := by
 by_cases hc : c
 · rw [if_pos hc] at h; exact k hc h
 · rw [if_neg hc] at h; exact l hc h
theorem not_t {b : Bool} (h : (!b) = true) : b = false := by cases b <;> first | rfl | exact no_ft h
theorem and_t {a b : Bool} (h : (a && b) = true) : a = true /\ b = true := Bool.and_eq_true_iff.mp h
theorem and3 {a b c : Bool} (h : (a && b && c) = true) : a = true /\ b = true /\ c = true := ⟨(and_t (and_t h).1).1, (and_t (and_t h).1).2, (and_t h).2⟩
theorem ex2 {C : Prop} {p q r : Heap -> List Addr -> Prop} (h : ∃ G θ, p G θ /\ q G θ /\ r G θ) (k : ∀ G θ, p G θ -> q G θ -> r G θ -> C) : C := by
 obtain ⟨G, θ, h1, h2, h3⟩ := h; exact k G θ h1 h2 h3
theorem view_ind {C : Expr -> Prop} (name : ∀ n p, C (.Name n p)) (tup : ∀ l k p, C (.Tuple l k p)) (lc : ∀ a b c p, C (.ListComp a b c p)) (sub : ∀ o i p, C (.Subscript o i p)) (slice : ∀ a b c p, C (.Slice a b c p))
   (attr : ∀ o n p, C (.Attribute o n p)) (call : ∀ f a k p, C (.Call f a k p)) (con : ∀ c k p, C (.Constant c k p)) (other : ∀ e, viewE e = (none, none, none, none, none, none, none, none) -> C e) (e : Expr) : C e := by
 cases e <;> first | exact name _ _ | exact tup _ _ _ | exact lc _ _ _ _ | exact sub _ _ _ | exact slice _ _ _ _ | exact attr _ _ _ | exact call _ _ _ _ | exact con _ _ _ | exact other _ rfl
theorem of_nameE {e : Expr} {n : Str} : nameOf e = some n -> ∃ p, e = .Name n p :=
 view_ind (C := fun e => nameOf e = some n -> ∃ p, e = .Name n p) (fun _ p h => ⟨p, Option.some.inj h ▸ rfl⟩) (fun _ _ _ h => no_some h) (fun _ _ _ _ h => no_some h) (fun _ _ _ h => no_some h) (fun _ _ _ _ h => no_some h) (fun _ _ _ h => no_some h) (fun _ _ _ _ h => no_some h)
   (fun _ _ _ h => no_some h) (fun _ hv h => no_some ((congrArg (·.1) hv).symm.trans h)) e
theorem of_tupE {e : Expr} {l : List Expr} : tupE e = some l -> ∃ k p, e = .Tuple l k p :=
 view_ind (C := fun e => tupE e = some l -> ∃ k p, e = .Tuple l k p) (fun _ _ h => no_some h) (fun _ k p h => ⟨k, p, Option.some.inj h ▸ rfl⟩) (fun _ _ _ _ h => no_some h) (fun _ _ _ h => no_some h) (fun _ _ _ _ h => no_some h) (fun _ _ _ h => no_some h) (fun _ _ _ _ h => no_some h)
   (fun _ _ _ h => no_some h) (fun _ hv h => no_some ((congrArg (·.2.1) hv).symm.trans h)) e
theorem of_lcE {e : Expr} {q : Expr × List Comprehension × Scope} : lcE e = some q -> ∃ p, e = .ListComp q.1 q.2.1 q.2.2 p :=
 view_ind (C := fun e => lcE e = some q -> ∃ p, e = .ListComp q.1 q.2.1 q.2.2 p) (fun _ _ h => no_some h) (fun _ _ _ h => no_some h) (fun _ _ _ p h => ⟨p, Option.some.inj h ▸ rfl⟩) (fun _ _ _ h => no_some h) (fun _ _ _ _ h => no_some h) (fun _ _ _ h => no_some h) (fun _ _ _ _ h => no_some h)
   (fun _ _ _ h => no_some h) (fun _ hv h => no_some ((congrArg (·.2.2.1) hv).symm.trans h)) e
theorem of_subE {e : Expr} {q : Expr × Expr} : subE e = some q -> ∃ p, e = .Subscript q.1 q.2 p :=
 view_ind (C := fun e => subE e = some q -> ∃ p, e = .Subscript q.1 q.2 p) (fun _ _ h => no_some h) (fun _ _ _ h => no_some h) (fun _ _ _ _ h => no_some h) (fun _ _ p h => ⟨p, Option.some.inj h ▸ rfl⟩) (fun _ _ _ _ h => no_some h) (fun _ _ _ h => no_some h) (fun _ _ _ _ h => no_some h)
   (fun _ _ _ h => no_some h) (fun _ hv h => no_some ((congrArg (·.2.2.2.1) hv).symm.trans h)) e
theorem of_sliceE {e : Expr} {q : Option Expr × Option Expr × Option Expr} : sliceE e = some q -> ∃ p, e = .Slice q.1 q.2.1 q.2.2 p :=
 view_ind (C := fun e => sliceE e = some q -> ∃ p, e = .Slice q.1 q.2.1 q.2.2 p) (fun _ _ h => no_some h) (fun _ _ _ h => no_some h) (fun _ _ _ _ h => no_some h) (fun _ _ _ h => no_some h) (fun _ _ _ p h => ⟨p, Option.some.inj h ▸ rfl⟩) (fun _ _ _ h => no_some h) (fun _ _ _ _ h => no_some h)
   (fun _ _ _ h => no_some h) (fun _ hv h => no_some ((congrArg (·.2.2.2.2.1) hv).symm.trans h)) e
theorem of_attrE {e : Expr} {q : Expr × Str × Pos} : attrE e = some q -> e = .Attribute q.1 q.2.1 q.2.2 :=
 view_ind (C := fun e => attrE e = some q -> e = .Attribute q.1 q.2.1 q.2.2) (fun _ _ h => no_some h) (fun _ _ _ h => no_some h) (fun _ _ _ _ h => no_some h) (fun _ _ _ h => no_some h) (fun _ _ _ _ h => no_some h) (fun _ _ _ h => Option.some.inj h ▸ rfl) (fun _ _ _ _ h => no_some h)
   (fun _ _ _ h => no_some h) (fun _ hv h => no_some ((congrArg (·.2.2.2.2.2.1) hv).symm.trans h)) e
theorem of_callN {e : Expr} {q : Str × List Expr} : callN e = some q -> ∃ p1 p, e = .Call (.Name q.1 p1) q.2 [] p :=
 view_ind (C := fun e => callN e = some q -> ∃ p1 p, e = .Call (.Name q.1 p1) q.2 [] p) (fun _ _ h => no_some h) (fun _ _ _ h => no_some h) (fun _ _ _ _ h => no_some h) (fun _ _ _ h => no_some h) (fun _ _ _ _ h => no_some h) (fun _ _ _ h => no_some h)
   (fun f a k p h => if_some h fun hk h => bind1 h fun x hx h => (of_nameE hx).elim fun p1 e => ⟨p1, p, by have e : f = .Name x p1 := e; have hk : k = [] := List.isEmpty_iff.mp hk; rw [e, hk, <- Option.some.inj h]⟩)
   (fun _ _ _ h => no_some h) (fun _ hv h => bind1 h fun _ e _ => no_some ((congrArg (·.2.2.2.2.2.2.1) hv).symm.trans e)) e
theorem of_conE {e : Expr} {q : Const} : constOf e = some q -> ∃ k p, e = .Constant q k p :=
 view_ind (C := fun e => constOf e = some q -> ∃ k p, e = .Constant q k p) (fun _ _ h => no_some h) (fun _ _ _ h => no_some h) (fun _ _ _ _ h => no_some h) (fun _ _ _ h => no_some h) (fun _ _ _ _ h => no_some h) (fun _ _ _ h => no_some h) (fun _ _ _ _ h => no_some h)
   (fun _ k p h => ⟨k, p, Option.some.inj h ▸ rfl⟩) (fun _ hv h => no_some ((congrArg (·.2.2.2.2.2.2.2) hv).symm.trans h)) e
theorem of_one {α : Type} {l : List α} {a : α} (h : one l = some a) : l = [a] := by
 cases l with
 | nil => exact no_some h
 | cons b l => exact if_some h fun hk h => by rw [List.isEmpty_iff.mp hk, Option.some.inj h]
theorem of_two {α : Type} {l : List α} {q : α × α} (h : two l = some q) : l = [q.1, q.2] := by
 cases l with
 | nil => exact no_some h
 | cons b l =>
   cases l with
   | nil => exact no_some h
   | cons c l => exact if_some h fun hk h => by rw [List.isEmpty_iff.mp hk, <- Option.some.inj h]
theorem of_pairE {t : Expr} {ab : Str × Str} (h : pairE t = some ab) : ∃ p1 p2 k p, t = .Tuple [.Name ab.1 p1, .Name ab.2 p2] k p :=
 bind1 h fun q h1 h2 => bind1 h1 fun l h3 h4 => bind1 h2 fun a h5 h6 => bind1 h6 fun b h7 h8 =>
   (of_tupE h3).elim fun k e => e.elim fun p e => (of_nameE h5).elim fun p1 e1 => (of_nameE h7).elim fun p2 e2 => ⟨p1, p2, k, p, by rw [e, of_two h4, e1, e2, <- Option.some.inj h8]⟩
theorem of_dat {v : V} {x : PyData} (h : datOf v = some x) : v = .d x := by
 cases v with
 | d y => exact Option.some.inj h ▸ rfl
 | _ => exact no_some h
theorem of_objV {v : V} {i : Nat} (h : objOf v = some i) : v = .obj i := by
 cases v with
 | obj y => exact Option.some.inj h ▸ rfl
 | _ => exact no_some h
theorem of_dicV {v : V} {l : List (PyData × PyData)} (h : dicOf v = some l) : v = .dict l := by
 cases v with
 | dict y => exact Option.some.inj h ▸ rfl
 | _ => exact no_some h
theorem of_instV {v : V} {q : Addr × Nat} (h : instOf v = some q) : v = .inst q.1 q.2 := by
 cases v with
 | inst y => exact Option.some.inj h ▸ rfl
 | _ => exact no_some h
theorem of_intD {x : PyData} {i : Int} (h : intOf x = some i) : x = .int i := by
 cases x with
 | int y => exact Option.some.inj h ▸ rfl
 | _ => exact no_some h
theorem of_strD {x : PyData} {i : Str} (h : strOf x = some i) : x = .str i := by
 cases x with
 | str y => exact Option.some.inj h ▸ rfl
 | _ => exact no_some h
theorem of_listD {x : PyData} {i : List PyData} (h : listOf x = some i) : x = .list i := by
 cases x with
 | list y => exact Option.some.inj h ▸ rfl
 | _ => exact no_some h
theorem of_tupD {x : PyData} {i : List PyData} (h : tupOf x = some i) : x = .tuple i := by
 cases x with
 | tuple y => exact Option.some.inj h ▸ rfl
 | _ => exact no_some h
theorem of_seqD {x : PyData} {l : List PyData} (h : seqD x = some l) : x = .list l \/ x = .tuple l := by
 cases x with
 | list y => exact .inl (Option.some.inj h ▸ rfl)
 | tuple y => exact .inr (Option.some.inj h ▸ rfl)
 | _ => exact no_some h
theorem of_boolV {v : V} {b : Bool} (h : boolOf v = some b) : v = .d (.bool b) := by
 cases v with
 | d x =>
   cases x with
   | bool y => exact Option.some.inj h ▸ rfl
   | _ => exact no_some h
 | _ => exact no_some h
theorem of_tyV {v : V} {x : String} (h : tyOf v = some x) : v = .con (.type x) := by
 cases v with
 | con c =>
   cases c with
   | type y => exact Option.some.inj h ▸ rfl
   | _ => exact no_some h
 | _ => exact no_some h
theorem of_dictO {o : MO} {l : List (PyData × PyData)} (h : dictO o = some l) : o = .dict l := by
 cases o with
 | dict y => exact Option.some.inj h ▸ rfl
 | _ => exact no_some h
theorem of_listO {o : MO} {l : List PyData} (h : listO o = some l) : o = .list l := by
 cases o with
 | list y => exact Option.some.inj h ▸ rfl
 | _ => exact no_some h
theorem of_attrsO {o : MO} {l : List (Str × V)} (h : attrsO o = some l) : o = .attrs l := by
 cases o with
 | attrs y => exact Option.some.inj h ▸ rfl
 | _ => exact no_some h
section
variable {C : Prop} {μ : Sto} {i : Nat}
theorem at_dict {l : List (PyData × PyData)} (h : (μ[i]?).bind dictO = some l) : μ[i]? = some (.dict l) := bind1 h fun _ e q => e.trans (of_dictO q ▸ rfl)
theorem at_list {l : List PyData} (h : (μ[i]?).bind listO = some l) : μ[i]? = some (.list l) := bind1 h fun _ e q => e.trans (of_listO q ▸ rfl)
theorem at_attrs {l : List (Str × V)} (h : (μ[i]?).bind attrsO = some l) : μ[i]? = some (.attrs l) := bind1 h fun _ e q => e.trans (of_attrsO q ▸ rfl)
theorem d_int {v : V} {i : Int} (h : (datOf v).bind intOf = some i) : v = .d (.int i) := bind1 h fun _ e q => (of_dat e).trans (of_intD q ▸ rfl)
theorem d_str {v : V} {i : Str} (h : (datOf v).bind strOf = some i) : v = .d (.str i) := bind1 h fun _ e q => (of_dat e).trans (of_strD q ▸ rfl)
theorem d_list {v : V} {i : List PyData} (h : (datOf v).bind listOf = some i) : v = .d (.list i) := bind1 h fun _ e q => (of_dat e).trans (of_listD q ▸ rfl)
theorem d_tup {v : V} {i : List PyData} (h : (datOf v).bind tupOf = some i) : v = .d (.tuple i) := bind1 h fun _ e q => (of_dat e).trans (of_tupD q ▸ rfl)
theorem is_str {x : PyData} (h : isStrD x = true) : ∃ i, x = .str i := (Option.isSome_iff_exists.mp h).elim fun i e => ⟨i, of_strD e⟩
theorem is_tup {x : PyData} (h : isTupD x = true) : ∃ i, x = .tuple i := (Option.isSome_iff_exists.mp h).elim fun i e => ⟨i, of_tupD e⟩
end
noncomputable def ReadsP (G : Heap) (v : Value) (as : List Addr) (x : PyData) : Prop := match x with
 | .none => v = .none
 | .bool b => v = .bool b
 | .int i => ∃ t, v = .int i t
 | .str x => ∃ t, v = .str x t
 | .list xs => ∃ a o vs n bs, v = .ref a /\ G.get? a = some o /\ o.cls = .type "list" /\ o.data = .seq vs n /\ ReadsAll G vs.toList xs bs
 | .tuple xs => ∃ a o vs n, v = .ref a /\ G.get? a = some o /\ o.cls = .type "tuple" /\ o.data = .seq vs n /\ ReadsAll G vs.toList xs as
 | .dict _ => True
theorem reads_inv {G : Heap} {v : Value} {as : List Addr} {x : PyData} (r : Reads G v x as) : ReadsP G v as x :=
 Reads.casesOn (motive_1 := fun v x as _ => ReadsP G v as x) r rfl (fun _ => rfl) (fun _ t => ⟨t, rfl⟩) (fun _ t => ⟨t, rfl⟩)
   (fun h1 h2 h3 h4 => ⟨_, _, _, _, _, rfl, h1, h2, h3, h4⟩) (fun h1 h2 h3 h4 => ⟨_, _, _, _, rfl, h1, h2, h3, h4⟩) (fun _ _ _ _ _ => trivial)
noncomputable def RowP (G : Heap) (vs : List Value) (xs : List PyData) : Prop := match xs with
 | [] => vs = []
 | x :: xs => ∃ v vs' a1 a2, vs = v :: vs' /\ Reads G v x a1 /\ ReadsAll G vs' xs a2
theorem row_inv {G : Heap} {vs : List Value} {as : List Addr} {xs : List PyData} (r : ReadsAll G vs xs as) : RowP G vs xs :=
 ReadsAll.casesOn (motive_2 := fun vs xs _ _ => RowP G vs xs) r rfl (fun r1 r2 => ⟨_, _, _, _, rfl, r1, r2⟩)
section
variable {C : Prop} {G : Heap} {v : Value} {as : List Addr} {xs : List PyData}
theorem of_int {i : Int} (r : Reads G v (.int i) as) (k : ∀ t, v = .int i t -> C) : C := (show ∃ t, v = .int i t from reads_inv r).elim k
theorem of_str {x : Str} (r : Reads G v (.str x) as) (k : ∀ t, v = .str x t -> C) : C := (show ∃ t, v = .str x t from reads_inv r).elim k
theorem of_bool {b : Bool} (r : Reads G v (.bool b) as) (k : v = .bool b -> C) : C := k (reads_inv r)
theorem of_none (r : Reads G v .none as) (k : v = .none -> C) : C := k (reads_inv r)
theorem of_tup (r : Reads G v (.tuple xs) as) (k : ∀ a o vs n, v = .ref a -> G.get? a = some o -> o.cls = .type "tuple" -> o.data = .seq vs n -> ReadsAll G vs.toList xs as -> C) : C :=
 (show ∃ a o vs n, v = .ref a /\ _ from reads_inv r).elim fun a q => q.elim fun o q => q.elim fun vs q => q.elim fun n q => k a o vs n q.1 q.2.1 q.2.2.1 q.2.2.2.1 q.2.2.2.2
theorem of_list (r : Reads G v (.list xs) as) (k : ∀ a o vs n bs, v = .ref a -> G.get? a = some o -> o.cls = .type "list" -> o.data = .seq vs n -> ReadsAll G vs.toList xs bs -> C) : C :=
 (show ∃ a o vs n bs, v = .ref a /\ _ from reads_inv r).elim fun a q => q.elim fun o q => q.elim fun vs q => q.elim fun n q => q.elim fun bs q => k a o vs n bs q.1 q.2.1 q.2.2.1 q.2.2.2.1 q.2.2.2.2
theorem at_tup {a : Addr} (r : Reads G (.ref a) (.tuple xs) as) (k : ∀ o vs n, G.get? a = some o -> o.cls = .type "tuple" -> o.data = .seq vs n -> ReadsAll G vs.toList xs as -> C) : C :=
 of_tup r fun _ o vs n e h1 h2 h3 h4 => k o vs n (Value.ref.inj e ▸ h1) h2 h3 h4
theorem of_cons {vs : List Value} {x : PyData} (r : ReadsAll G vs (x :: xs) as) (k : ∀ v vs' a1 a2, vs = v :: vs' -> Reads G v x a1 -> ReadsAll G vs' xs a2 -> C) : C :=
 (show ∃ v vs' a1 a2, vs = v :: vs' /\ _ from row_inv r).elim fun a q => q.elim fun o q => q.elim fun vs q => q.elim fun n q => k a o vs n q.1 q.2.1 q.2.2
theorem of_nil {vs : List Value} (r : ReadsAll G vs [] as) (k : vs = [] -> C) : C := k (row_inv r)
end
theorem ra_ind {h : Heap} {C : List Value -> List PyData -> Prop} (nil : C [] []) (cons : ∀ v vs x xs a b, Reads h v x a -> ReadsAll h vs xs b -> C vs xs -> C (v :: vs) (x :: xs)) {xs : List PyData} {vs : List Value} {as : List Addr} (r : ReadsAll h vs xs as) : C vs xs := by
 induction xs generalizing vs as with
 | nil => exact of_nil r fun e => e ▸ nil
 | cons x xs ih => exact of_cons r fun v vs' a b e r1 r2 => e ▸ cons _ _ _ _ _ _ r1 r2 (ih r2)
theorem readsAll_get {h : Heap} {vs : List Value} {xs : List PyData} {as : List Addr} (r : ReadsAll h vs xs as) {i : Nat} {x : PyData} (e : xs[i]? = some x) : ∃ v bs, vs[i]? = some v /\ Reads h v x bs :=
 ra_ind (C := fun vs xs => ∀ i, xs[i]? = some x -> ∃ v bs, vs[i]? = some v /\ Reads h v x bs) (fun i e => no_some e) (fun v vs y xs a b r1 _ ih i e => by
   cases i with
   | zero => exact ⟨v, a, rfl, Option.some.inj e ▸ r1⟩
   | succ i => exact ih i e) r i e
theorem readsAll_at {h : Heap} {vs : List Value} {xs : List PyData} {as : List Addr} (r : ReadsAll h vs xs as) {i : Nat} {v : Value} {x : PyData} (hv : vs[i]? = some v) (hx : xs[i]? = some x) : ∃ bs, Reads h v x bs := by
 obtain ⟨u, bs, hu, hr⟩ := readsAll_get r hx
 exact ⟨bs, Option.some.inj (hu.symm.trans hv) ▸ hr⟩
end Mine
end
section
namespace Mine.L
open PySem
inductive Lf | a | b | h | x | y
deriving DecidableEq
inductive Un | f | fb
deriving DecidableEq
inductive Bi | b | f
deriving DecidableEq
inductive Tm
 | leaf (l : Lf)
 | un (u : Un) (s : Tm)
 | bin (v : Bi) (s t : Tm)
deriving DecidableEq
noncomputable def Lf.nm : Lf -> Str | .a => "a" | .b => "b" | .h => "h" | .x => "?x" | .y => "?y"
noncomputable def Un.nm : Un -> Str | .f => "f" | .fb => "fb"
noncomputable def Bi.nm : Bi -> Str | .b => "b" | .f => "f"
noncomputable def Tm.nm : Tm -> Str | .leaf l => l.nm | .un u _ => u.nm | .bin v _ _ => v.nm
noncomputable def Tm.kids : Tm -> List Tm | .leaf _ => [] | .un _ s => [s] | .bin _ s t => [s, t]
noncomputable def Tm.enc : Tm -> PyData
 | .leaf l => .tuple [.str l.nm]
 | .un u s => .tuple [.str u.nm, s.enc]
 | .bin v s t => .tuple [.str v.nm, s.enc, t.enc]
theorem Tm.enc_eq (t : Tm) : t.enc = .tuple (.str t.nm :: t.kids.map Tm.enc) := by cases t <;> rfl
noncomputable def Lf.isV : Lf -> Bool | .a => false | .b => false | .h => false | .x => true | .y => true
noncomputable def Tm.isVar : Tm -> Bool | .leaf l => l.isV | .un _ _ => false | .bin _ _ _ => false
noncomputable def Tm.ht : Tm -> Nat | .leaf _ => 0 | .un _ s => s.ht + 1 | .bin _ s t => max s.ht t.ht + 1
section
variable {P : Par} {n : Nat} {r : Rec} {fm : Fm} {μ : Sto} {sc : Scope} {ρ : Loc}
theorem lvl_exs (l : List Stmt) : (Lvl P (n + 1)).exs sc l ρ μ = stepExs P (Lvl P n) sc l ρ μ := rfl
theorem lvl_call (f : V) (vs : List V) : (Lvl P (n + 1)).call f vs μ = callM P (Lvl P n) f vs μ := rfl
theorem all_or {tr : Expr -> Sto -> Option (Bool × Sto)} {x l} : allM tr .Or (x :: l) μ = (tr x μ).bind fun b => if b.1 then some (true, b.2) else allM tr .Or l b.2 := by
 show ((tr x μ).bind fun b => _) = _
 congr 1; funext b; obtain ⟨b, m⟩ := b; cases b <;> rfl
theorem all_and {tr : Expr -> Sto -> Option (Bool × Sto)} {x l} : allM tr .And (x :: l) μ = (tr x μ).bind fun b => if b.1 then allM tr .And l b.2 else some (false, b.2) := by
 show ((tr x μ).bind fun b => _) = _
 congr 1; funext b; obtain ⟨b, m⟩ := b; cases b <;> rfl
theorem call_bi {x : String} {vs} : (Lvl P (n + 1)).call (.con (.builtin x)) vs μ = builtinM μ (.builtin x) vs := rfl
theorem call_ty {x : String} {vs} : (Lvl P (n + 1)).call (.con (.type x)) vs μ = builtinM μ (.type x) vs := rfl
end
theorem lk_hit {α : Type} {k : Str} {v : α} {l : List (Str × α)} : List.lookup k ((k, v) :: l) = some v := by
 rw [List.lookup_cons, beq_self_eq_true]
theorem lk_miss {α : Type} {k j : Str} {v : α} {l : List (Str × α)} (h : (k == j) = false) : List.lookup k ((j, v) :: l) = List.lookup k l := by
 rw [List.lookup_cons, h]
noncomputable def isLK (k : NameKind) : Bool := match k with
 | .local => true
 | .cell => true
 | .free => true
 | _ => false
noncomputable def isLO (o : Option NameKind) : Bool := match o with
 | some k => isLK k
 | none => false
theorem nm_local {P : Par} {sc : Scope} {ρ : Loc} {x : Str} (h0 : (x == ("__debug__" : Str)) = false) (h : isLO (sc.names.lookup x) = true) : nameM P ⟨sc, ρ⟩ x = ρ.lookup x := by
 unfold nameM
 rw [if_neg (by rw [h0]; decide)]
 show (sc.names.lookup x).bind _ = _
 cases hk : sc.names.lookup x with
 | none => rw [hk] at h; exact no_ft h
 | some k =>
   rw [hk] at h
   cases k <;> first | rfl | exact no_ft h
theorem obind_some {α β : Type} (a : α) (f : α -> Option β) : (some a).bind f = f a := rfl
end Mine.L
end
section
namespace Mine.L
open PySem
noncomputable def Tm.size : Tm -> Nat | .leaf _ => 1 | .un _ s => s.size + 1 | .bin _ s t => s.size + t.size + 1
theorem Tm.size_kid {s k : Tm} (h : k ∈ s.kids) : k.size < s.size := by
 cases s with
 | leaf => cases h
 | un u t => rw [List.mem_singleton.mp h]; exact Nat.lt_succ_self _
 | bin v a b =>
   rcases List.mem_cons.mp h with rfl | h
   · exact Nat.lt_succ_of_le (Nat.le_add_right _ _)
   · rw [List.mem_singleton.mp h]; exact Nat.lt_succ_of_le (Nat.le_add_left _ _)
theorem Tm.size_pos (s : Tm) : 0 < s.size := by cases s <;> exact Nat.succ_pos _
theorem var_kids {s : Tm} (h : s.isVar = true) : s.kids = [] := by
 cases s with
 | leaf l => rfl
 | _ => exact no_ft h
noncomputable def fstD (f : Tm -> Tm -> Bool) : List Tm -> List Tm -> Bool
 | [], _ => false
 | a :: as, l => match l with
   | [] => false
   | b :: bs => if a = b then fstD f as bs else f a b
theorem fstD_cons {f : Tm -> Tm -> Bool} {a b : Tm} {l m : List Tm} : fstD f (a :: l) (b :: m) = if a = b then fstD f l m else f a b := rfl
theorem fstD_congr {f g : Tm -> Tm -> Bool} {l : List Tm} : ∀ {m : List Tm}, (∀ a ∈ l, ∀ b ∈ m, f a b = g a b) -> fstD f l m = fstD g l m := by
 induction l with
 | nil => exact fun _ => rfl
 | cons a l ih =>
   intro m h
   cases m with
   | nil => rfl
   | cons b m => rw [fstD_cons, fstD_cons, h a (List.mem_cons_self ..) b (List.mem_cons_self ..), ih fun x hx y hy => h x (List.mem_cons_of_mem _ hx) y (List.mem_cons_of_mem _ hy)]
theorem fstD_trans {f : Tm -> Tm -> Bool} (hirr : ∀ a, f a a = false) {l : List Tm} : ∀ {m k : List Tm}, (∀ a ∈ l, ∀ b ∈ m, ∀ c ∈ k, f a b = true -> f b c = true -> f a c = true) ->
   fstD f l m = true -> fstD f m k = true -> fstD f l k = true := by
 induction l with
 | nil => exact fun _ h => no_ft h
 | cons a l ih =>
   intro m k ht h1 h2
   cases m with
   | nil => exact no_ft h1
   | cons b m =>
   cases k with
   | nil => exact no_ft h2
   | cons c k =>
   rw [fstD_cons] at h1 h2 ⊢
   by_cases e1 : a = b
   · subst e1
     rw [if_pos rfl] at h1
     by_cases e2 : a = c
     · rw [if_pos e2] at h2 ⊢
       exact ih (fun x hx y hy z hz => ht x (List.mem_cons_of_mem _ hx) y (List.mem_cons_of_mem _ hy) z (List.mem_cons_of_mem _ hz)) h1 h2
     · rw [if_neg e2] at h2 ⊢; exact h2
   · rw [if_neg e1] at h1
     by_cases e2 : b = c
     · subst e2
       rw [if_neg e1]; exact h1
     · rw [if_neg e2] at h2
       have h3 := ht a (List.mem_cons_self ..) b (List.mem_cons_self ..) c (List.mem_cons_self ..) h1 h2
       rw [if_neg (fun e => by rw [e, hirr] at h3; exact no_ft h3)]
       exact h3
section
variable {K : Type} [DecidableEq K] (H : Tm -> K) (gt : K -> K -> Bool)
noncomputable def bodyR (f : Tm -> Tm -> Bool) (s t : Tm) : Bool :=
 (s.kids.any fun k => decide (k = t) || f k t) || (!s.isVar && !t.isVar && (t.kids.all fun k => f s k) && (gt (H s) (H t) || (decide (H s = H t) && fstD f s.kids t.kids)))
theorem any_congr' {α : Type} {f g : α -> Bool} : ∀ {l : List α}, (∀ a ∈ l, f a = g a) -> l.any f = l.any g
 | [], _ => rfl
 | a :: l, h => by simp only [List.any_cons, h a (List.mem_cons_self ..), any_congr' fun x hx => h x (List.mem_cons_of_mem _ hx)]
theorem all_congr' {α : Type} {f g : α -> Bool} : ∀ {l : List α}, (∀ a ∈ l, f a = g a) -> l.all f = l.all g
 | [], _ => rfl
 | a :: l, h => by simp only [List.all_cons, h a (List.mem_cons_self ..), all_congr' fun x hx => h x (List.mem_cons_of_mem _ hx)]
theorem bodyR_congr {f g : Tm -> Tm -> Bool} {s t : Tm} (h1 : ∀ k ∈ s.kids, f k t = g k t) (h2 : ∀ k ∈ t.kids, f s k = g s k) (h3 : ∀ a ∈ s.kids, ∀ b ∈ t.kids, f a b = g a b) : bodyR H gt f s t = bodyR H gt g s t := by
 unfold bodyR
 rw [any_congr' (g := fun k => decide (k = t) || g k t) (fun a ha => by rw [h1 a ha]), all_congr' (g := fun k => g s k) (fun a ha => by rw [h2 a ha]), fstD_congr h3]
noncomputable def RF : Nat -> Tm -> Tm -> Bool
 | 0 => fun _ _ => false
 | n + 1 => bodyR H gt (RF n)
theorem RF_stable : ∀ (n m : Nat) (s t : Tm), s.size + t.size <= n -> s.size + t.size <= m -> RF H gt n s t = RF H gt m s t
 | 0, _, s, _, h, _ => by have := s.size_pos; omega
 | _ + 1, 0, s, _, _, h => by have := s.size_pos; omega
 | n + 1, m + 1, s, t, h1, h2 => by
   refine bodyR_congr H gt (fun k hk => ?_) (fun k hk => ?_) fun a ha b hb => ?_
   · have := Tm.size_kid hk; exact RF_stable n m _ _ (by omega) (by omega)
   · have := Tm.size_kid hk; exact RF_stable n m _ _ (by omega) (by omega)
   · have := Tm.size_kid ha; have := Tm.size_kid hb; exact RF_stable n m _ _ (by omega) (by omega)
noncomputable def R (s t : Tm) : Bool := RF H gt (s.size + t.size) s t
theorem R_eq (s t : Tm) : R H gt s t = bodyR H gt (R H gt) s t := by
 have h : R H gt s t = RF H gt (s.size + t.size + 1) s t := RF_stable H gt _ _ _ _ (by omega) (by omega)
 rw [h]
 refine bodyR_congr H gt (fun k hk => ?_) (fun k hk => ?_) fun a ha b hb => ?_
 · have := Tm.size_kid hk; exact RF_stable H gt _ _ _ _ (by omega) (by omega)
 · have := Tm.size_kid hk; exact RF_stable H gt _ _ _ _ (by omega) (by omega)
 · have := Tm.size_kid ha; have := Tm.size_kid hb; exact RF_stable H gt _ _ _ _ (by omega) (by omega)
theorem R_iff (s t : Tm) : R H gt s t = true ↔ (∃ k ∈ s.kids, k = t \/ R H gt k t = true) \/
   (s.isVar = false /\ t.isVar = false /\ (∀ k ∈ t.kids, R H gt s k = true) /\ (gt (H s) (H t) = true \/ H s = H t /\ fstD (R H gt) s.kids t.kids = true)) := by
 rw [R_eq]
 unfold bodyR
 simp only [Bool.or_eq_true, List.any_eq_true, decide_eq_true_eq, Bool.and_eq_true, Bool.not_eq_true', List.all_eq_true, and_assoc]
theorem R_kid : ∀ (s t k : Tm), R H gt s t = true -> k ∈ t.kids -> R H gt s k = true := by
 have main : ∀ (n : Nat) (s t k : Tm), s.size <= n -> R H gt s t = true -> k ∈ t.kids -> R H gt s k = true := by
   intro n
   induction n with
   | zero => intro s _ _ h; have := s.size_pos; omega
   | succ n ih =>
     intro s t k hn h hk
     rcases (R_iff H gt s t).mp h with ⟨s', hs, rfl | h'⟩ | ⟨_, _, h3, _⟩
     · refine (R_iff H gt s k).mpr (.inl ⟨s', hs, .inr ?_⟩)
       exact (R_iff H gt s' k).mpr (.inl ⟨k, hk, .inl rfl⟩)
     · refine (R_iff H gt s k).mpr (.inl ⟨s', hs, .inr ?_⟩)
       have := Tm.size_kid hs
       exact ih s' t k (by omega) h' hk
     · exact h3 k hk
 exact fun s t k => main s.size s t k (Nat.le_refl _)
theorem fstD_self (f : Tm -> Tm -> Bool) : ∀ l : List Tm, fstD f l l = false
 | [] => rfl
 | a :: l => (if_pos rfl).trans (fstD_self f l)
variable (girr : ∀ a, gt a a = false) (gtr : ∀ a b c, gt a b = true -> gt b c = true -> gt a c = true)
include girr
theorem R_irr : ∀ s : Tm, R H gt s s = false := by
 have main : ∀ (n : Nat) (s : Tm), s.size <= n -> R H gt s s = false := by
   intro n
   induction n with
   | zero => intro s h; have := s.size_pos; omega
   | succ n ih =>
     intro s hn
     rw [<- Bool.not_eq_true]
     intro h
     rcases (R_iff H gt s s).mp h with ⟨s', hs, rfl | h'⟩ | ⟨_, _, _, h | ⟨_, h⟩⟩
     · have := Tm.size_kid hs; omega
     · have := R_kid H gt _ _ _ h' hs
       have hz := Tm.size_kid hs
       rw [ih s' (by omega)] at this; cases this
     · rw [girr] at h; cases h
     · rw [fstD_self] at h; cases h
 exact fun s => main s.size s (Nat.le_refl _)
include gtr
theorem R_trans : ∀ s t u : Tm, R H gt s t = true -> R H gt t u = true -> R H gt s u = true := by
 have main : ∀ (n : Nat) (s t u : Tm), s.size + t.size + u.size <= n -> R H gt s t = true -> R H gt t u = true -> R H gt s u = true := by
   intro n
   induction n with
   | zero => intro s _ _ h; have := s.size_pos; omega
   | succ n ih =>
     intro s t u hn h1 h2
     rcases (R_iff H gt s t).mp h1 with ⟨s', hs, rfl | h'⟩ | ⟨v1, v2, k1, g1⟩
     · exact (R_iff H gt s u).mpr (.inl ⟨s', hs, .inr h2⟩)
     · have := Tm.size_kid hs
       exact (R_iff H gt s u).mpr (.inl ⟨s', hs, .inr (ih s' t u (by omega) h' h2)⟩)
     · rcases (R_iff H gt t u).mp h2 with ⟨t', ht, rfl | h'⟩ | ⟨_, v3, k2, g2⟩
       · exact k1 t' ht
       · have := Tm.size_kid ht
         exact ih s t' u (by omega) (k1 t' ht) h'
       · refine (R_iff H gt s u).mpr (.inr ⟨v1, v3, fun k hk => ?_, ?_⟩)
         · have := Tm.size_kid hk
           exact ih s t k (by omega) h1 (k2 k hk)
         · rcases g1 with g1 | ⟨e1, f1⟩
           · rcases g2 with g2 | ⟨e2, f2⟩
             · exact .inl (gtr _ _ _ g1 g2)
             · rw [e2] at g1; exact .inl g1
           · rcases g2 with g2 | ⟨e2, f2⟩
             · rw [<- e1] at g2; exact .inl g2
             · refine .inr ⟨e1.trans e2, fstD_trans (R_irr H gt girr) (fun a ha b hb c hc => ?_) f1 f2⟩
               have := Tm.size_kid ha; have := Tm.size_kid hb; have := Tm.size_kid hc
               exact ih a b c (by omega)
 exact fun s t u => main _ s t u (Nat.le_refl _)
theorem R_asymm (s t : Tm) (h1 : R H gt s t = true) : R H gt t s = false := by
 rw [<- Bool.not_eq_true]
 intro h2
 have := R_trans H gt girr gtr s t s h1 h2
 rw [R_irr H gt girr] at this; cases this
end
end Mine.L
end
section
namespace Mine.L
open PySem
mutual
noncomputable def cl : PyData -> Bool
 | .none => true
 | .int _ => true
 | .str x => PyData.strOk x
 | .list xs => clAll xs
 | .tuple xs => clAll xs
 | .bool _ => false
 | .dict _ => false
noncomputable def clAll : List PyData -> Bool
 | [] => true
 | x :: xs => cl x && clAll xs
end
theorem cl_bool {C : Prop} {b : Bool} (h : cl (.bool b) = true) : C := no_ft h
theorem cl_dict {C : Prop} {b : List (PyData × PyData)} (h : cl (.dict b) = true) : C := no_ft h
mutual
theorem cl_lay : ∀ x : PyData, cl x = true -> x.canLay0 = true
 | .none, _ => rfl
 | .int _, _ => rfl
 | .str _, h => h
 | .list xs, h => clAll_lay xs h
 | .tuple xs, h => clAll_lay xs h
 | .bool _, h => cl_bool h
 | .dict _, h => cl_dict h
theorem clAll_lay : ∀ xs : List PyData, clAll xs = true -> PyData.canLayAll0 xs = true
 | [], _ => rfl
 | x :: xs, h => Bool.and_eq_true_iff.mpr ⟨cl_lay x (and_t h).1, clAll_lay xs (and_t h).2⟩
end
mutual
theorem cl_mix : ∀ x : PyData, cl x = true -> ∀ y, cl y = true -> SeqAt.noMix x y = true
 | .none, _, y, _ => by cases y <;> rfl
 | .int _, _, y, h => by cases y <;> first | rfl | exact cl_bool h
 | .str _, _, y, _ => by cases y <;> rfl
 | .list xs, h, y, h2 => by
   cases y with
   | list ys => exact clAll_mix xs h ys h2
   | _ => rfl
 | .tuple xs, h, y, h2 => by
   cases y with
   | tuple ys => exact clAll_mix xs h ys h2
   | _ => rfl
 | .bool _, h, _, _ => cl_bool h
 | .dict _, h, _, _ => cl_dict h
theorem clAll_mix : ∀ xs : List PyData, clAll xs = true -> ∀ ys, clAll ys = true -> SeqAt.noMixAll xs ys = true
 | [], _, ys, _ => by cases ys <;> rfl
 | x :: xs, h, ys, h2 => by
   cases ys with
   | nil => rfl
   | cons y ys => exact Bool.and_eq_true_iff.mpr ⟨cl_mix x (and_t h).1 y (and_t h2).1, clAll_mix xs (and_t h).2 ys (and_t h2).2⟩
end
theorem cl_eqv (x y : PyData) (h1 : cl x = true) (h2 : cl y = true) : PyData.eqv x y = true ↔ x = y := by
 rw [<- SeqAt.same_eq_eqv x y (cl_mix x h1 y h2)]; exact PyProof.Rows.same_iff
noncomputable def okd (x : PyData) (k : Nat) : Prop := cl x = true /\ x.depth <= k
theorem clAll_of : ∀ {l : List PyData}, (∀ x ∈ l, cl x = true) -> clAll l = true
 | [], _ => rfl
 | x :: l, h => Bool.and_eq_true_iff.mpr ⟨h x (List.mem_cons_self ..), clAll_of fun y hy => h y (List.mem_cons_of_mem _ hy)⟩
theorem depthAll_of : ∀ {l : List PyData} {k : Nat}, (∀ x ∈ l, x.depth <= k) -> PyData.depthAll l <= k
 | [], _, _ => Nat.zero_le _
 | x :: l, k, h => Nat.max_le.mpr ⟨h x (List.mem_cons_self ..), depthAll_of fun y hy => h y (List.mem_cons_of_mem _ hy)⟩
theorem okd_tuple {l : List PyData} {k : Nat} (h : ∀ x ∈ l, okd x k) : okd (.tuple l) (k + 1) :=
 ⟨clAll_of fun x hx => (h x hx).1, Nat.succ_le_succ (depthAll_of fun x hx => (h x hx).2)⟩
theorem okd_list {l : List PyData} {k : Nat} (h : ∀ x ∈ l, okd x k) : okd (.list l) (k + 1) :=
 ⟨clAll_of fun x hx => (h x hx).1, Nat.succ_le_succ (depthAll_of fun x hx => (h x hx).2)⟩
theorem okd_int (i : Int) (k : Nat) : okd (.int i) k := ⟨rfl, Nat.zero_le _⟩
theorem okd_none (k : Nat) : okd .none k := ⟨rfl, Nat.zero_le _⟩
theorem okd_str {x : Str} (h : PyData.strOk x = true) (k : Nat) : okd (.str x) k := ⟨h, Nat.zero_le _⟩
theorem okd.mono {x : PyData} {k j : Nat} (h : okd x k) (hj : k <= j) : okd x j := ⟨h.1, Nat.le_trans h.2 hj⟩
theorem okd.okD {x : PyData} (h : okd x 60) : okD x = true := by
 exact Bool.and_eq_true_iff.mpr ⟨cl_lay x h.1, decide_eq_true h.2⟩
theorem eqv_b {x y : PyData} {b : Bool} (h1 : cl x = true) (h2 : cl y = true) (hb : b = true ↔ x = y) : PyData.eqv x y = b := Bool.eq_iff_iff.mpr ((cl_eqv x y h1 h2).trans hb.symm)
theorem cmp_eq {μ : Sto} {x y : PyData} {b : Bool} (h1 : okd x 60) (h2 : okd y 60) (hb : b = true ↔ x = y) : cmpM μ .Eq (.d x) (.d y) = some b := by
 show (if okD x && okD y then some (PyData.eqv x y) else none) = _
 rw [if_pos (Bool.and_eq_true_iff.mpr ⟨h1.okD, h2.okD⟩), eqv_b h1.1 h2.1 hb]
theorem cmp_ne {μ : Sto} {x y : PyData} {b : Bool} (h1 : okd x 60) (h2 : okd y 60) (hb : b = true ↔ x = y) : cmpM μ .NotEq (.d x) (.d y) = some (!b) :=
 show notO (cmpM μ .Eq (.d x) (.d y)) = _ from cmp_eq (μ := μ) h1 h2 hb ▸ rfl
theorem nm_ok (t : Tm) : PyData.strOk t.nm = true := by
 cases t with
 | leaf l => cases l <;> decide +kernel
 | un u s => simp only [Tm.nm]; cases u <;> decide +kernel
 | bin v s t => simp only [Tm.nm]; cases v <;> decide +kernel
theorem enc_ok (t : Tm) : okd t.enc (t.ht + 1) := by
 induction t with
 | leaf l => exact okd_tuple fun x hx => List.mem_singleton.mp hx ▸ okd_str (nm_ok (.leaf l)) _
 | un u s ih =>
   refine okd_tuple fun x hx => ?_
   rcases List.mem_cons.mp hx with rfl | hx
   · exact okd_str (nm_ok (.un u s)) _
   · exact List.mem_singleton.mp hx ▸ ih
 | bin v s t ih1 ih2 =>
   refine okd_tuple fun x hx => ?_
   rcases List.mem_cons.mp hx with rfl | hx
   · exact okd_str (nm_ok (.bin v s t)) _
   rcases List.mem_cons.mp hx with rfl | hx
   · exact ih1.mono (Nat.succ_le_succ (Nat.le_max_left _ _))
   · exact List.mem_singleton.mp hx ▸ ih2.mono (Nat.succ_le_succ (Nat.le_max_right _ _))
noncomputable def rowT (x : PyData) : List PyData := match x with
 | .tuple l => l
 | _ => []
theorem str_i {a b : Str} {l m : List PyData} (h : PyData.tuple (.str a :: l) = .tuple (.str b :: m)) : a = b /\ l = m :=
 have e : PyData.str a :: l = .str b :: m := congrArg rowT h
 ⟨PyData.str.inj (List.cons.inj e).1, (List.cons.inj e).2⟩
theorem Lf.nm_inj {a b : Lf} (h : a.nm = b.nm) : a = b := by cases a <;> cases b <;> first | rfl | exact absurd h (by decide)
theorem Un.nm_inj {a b : Un} (h : a.nm = b.nm) : a = b := by cases a <;> cases b <;> first | rfl | exact absurd h (by decide)
theorem Bi.nm_inj {a b : Bi} (h : a.nm = b.nm) : a = b := by cases a <;> cases b <;> first | rfl | exact absurd h (by decide)
theorem enc_inj {s : Tm} : ∀ {t : Tm}, s.enc = t.enc -> s = t := by
 induction s with
 | leaf l =>
   intro t h
   cases t with
   | leaf m => rw [Lf.nm_inj (str_i h).1]
   | _ => exact nomatch (str_i h).2
 | un u s ih =>
   intro t h
   cases t with
   | un v t => rw [Un.nm_inj (str_i h).1, ih (List.cons.inj (str_i h).2).1]
   | leaf => exact nomatch (str_i h).2
   | bin => exact nomatch (List.cons.inj (str_i h).2).2
 | bin u s s' ih1 ih2 =>
   intro t h
   cases t with
   | bin v t t' => rw [Bi.nm_inj (str_i h).1, ih1 (List.cons.inj (str_i h).2).1, ih2 (List.cons.inj (List.cons.inj (str_i h).2).2).1]
   | leaf => exact nomatch (str_i h).2
   | un => exact nomatch (List.cons.inj (str_i h).2).2
theorem enc_iff {s t : Tm} : s.enc = t.enc ↔ s = t := ⟨enc_inj, fun h => h ▸ rfl⟩
theorem e60 {n : Nat} (h : n <= 50) : n + 1 <= 60 := Nat.le_trans (Nat.succ_le_succ h) (by decide)
theorem cmp_tm {μ : Sto} {s t : Tm} (h1 : s.ht <= 50) (h2 : t.ht <= 50) : cmpM μ .Eq (.d s.enc) (.d t.enc) = some (decide (s = t)) :=
 cmp_eq ((enc_ok s).mono (e60 h1)) ((enc_ok t).mono (e60 h2)) (by rw [decide_eq_true_iff, enc_iff])
theorem cmp_tm_ne {μ : Sto} {s t : Tm} (h1 : s.ht <= 50) (h2 : t.ht <= 50) : cmpM μ .NotEq (.d s.enc) (.d t.enc) = some (!decide (s = t)) :=
 cmp_ne ((enc_ok s).mono (e60 h1)) ((enc_ok t).mono (e60 h2)) (by rw [decide_eq_true_iff, enc_iff])
theorem ht_kid {s k : Tm} (h : k ∈ s.kids) : k.ht < s.ht := by
 cases s with
 | leaf => cases h
 | un u t => rw [List.mem_singleton.mp h]; exact Nat.lt_succ_self _
 | bin v a b =>
   rcases List.mem_cons.mp h with rfl | h
   · exact Nat.lt_succ_of_le (Nat.le_max_left _ _)
   · rw [List.mem_singleton.mp h]; exact Nat.lt_succ_of_le (Nat.le_max_right _ _)
end Mine.L
end
section
namespace Mine.L
open PySem
theorem keq {α : Sort _} {a b : α} (h : a = b) : a = b := h
noncomputable def forceL : Loc -> Option Loc
 | [] => some []
 | a :: l => (forceL l).bind fun r => some (a :: r)
theorem force_eq {l : Loc} : ∀ {r : Loc}, forceL l = some r -> l = r := by
 induction l with
 | nil => exact fun h => Option.some.inj h
 | cons a l ih => exact fun h => bind1 h fun q h1 h2 => (congrArg (a :: ·) (ih h1)).trans (Option.some.inj h2)
noncomputable def pure1 (P : Par) (fm : Fm) (e : Expr) : Option V := match nameOf e with
 | some x => nameM P fm x
 | none => (constOf e).bind constM
noncomputable def pure1s (P : Par) (fm : Fm) : List Expr -> Option (List V)
 | [] => some []
 | e :: l => (pure1 P fm e).bind fun v => (pure1s P fm l).bind fun vs => some (v :: vs)
noncomputable def pureE (P : Par) (fm : Fm) (e : Expr) : Option V := match tupE e with
 | some elts => if decide (elts.length < 100) then (pure1s P fm elts).bind fun vs => (dataM vs).bind fun xs => some (.d (.tuple xs)) else none
 | none => pure1 P fm e
noncomputable def pureEs (P : Par) (fm : Fm) : List Expr -> Option (List V)
 | [] => some []
 | e :: l => (pureE P fm e).bind fun v => (pureEs P fm l).bind fun vs => some (v :: vs)
section
variable {P : Par} {n : Nat} {r : Rec} {fm : Fm} {μ μ' : Sto} {sc : Scope} {ρ ρ' : Loc} {e : Expr} {v o : V} {vs : List V}
theorem pure1_ok (h : pure1 P fm e = some v) : (Lvl P (n + 1)).ev fm e μ = some (v, μ) := by
 unfold pure1 at h
 cases hn : nameOf e with
 | some x =>
   rw [hn] at h
   obtain ⟨p, rfl⟩ := of_nameE hn
   show (nameM P fm x).bind _ = _
   rw [show nameM P fm x = some v from h]; rfl
 | none =>
   rw [hn] at h
   exact bind1 h fun c hc h => (of_conE hc).elim fun k e' => e'.elim fun p e' => by
     rw [e']
     show (constM c).bind _ = _
     rw [h]; rfl
theorem pure1s_ok {l : List Expr} : ∀ {vs : List V}, pure1s P fm l = some vs -> evsM ((Lvl P (n + 1)).ev fm) l μ = some (vs, μ) := by
 induction l with
 | nil => exact fun h => Option.some.inj h ▸ rfl
 | cons e l ih =>
   exact fun h => bind1 h fun v h1 h2 => bind1 h2 fun ws h3 h4 => by
     show ((Lvl P (n + 1)).ev fm e μ).bind _ = _
     rw [pure1_ok h1]
     show (evsM _ l μ).bind _ = _
     rw [ih h3, <- Option.some.inj h4]; rfl
theorem pureE_ok (h : pureE P fm e = some v) : (Lvl P (n + 2)).ev fm e μ = some (v, μ) := by
 unfold pureE at h
 cases ht : tupE e with
 | none => rw [ht] at h; exact pure1_ok h
 | some elts =>
   rw [ht] at h
   obtain ⟨k, p, rfl⟩ := of_tupE ht
   exact if_some h fun hl h => bind1 h fun vs h1 h => bind1 h fun xs h2 h => by
     show (if decide (elts.length < 100) then (evsM ((Lvl P (n + 1)).ev fm) elts μ).bind _ else none) = _
     rw [if_pos hl, pure1s_ok h1]
     show (dataM vs).bind _ = _
     rw [h2, <- Option.some.inj h]; rfl
theorem pureEs_ok {l : List Expr} : ∀ {vs : List V}, pureEs P fm l = some vs -> evsM ((Lvl P (n + 2)).ev fm) l μ = some (vs, μ) := by
 induction l with
 | nil => exact fun h => Option.some.inj h ▸ rfl
 | cons e l ih =>
   exact fun h => bind1 h fun v h1 h2 => bind1 h2 fun ws h3 h4 => by
     show ((Lvl P (n + 2)).ev fm e μ).bind _ = _
     rw [pureE_ok h1]
     show (evsM _ l μ).bind _ = _
     rw [ih h3, <- Option.some.inj h4]; rfl
noncomputable def kV (μ : Sto) (v : V) : Option (V × Sto) := some (v, μ)
noncomputable def kD (μ : Sto) (x : PyData) : Option (V × Sto) := some (.d x, μ)
noncomputable def kCall (r : Rec) (g : V) (x : List V × Sto) : Option (V × Sto) := r.call g x.1 x.2
noncomputable def kM2 (P : Par) (r : Rec) (ov : V) (name : Str) (x : List V × Sto) : Option (V × Sto) := callMeth P r ov name x.1 x.2
noncomputable def kM1 (P : Par) (r : Rec) (fm : Fm) (name : Str) (args : List Expr) (x : V × Sto) : Option (V × Sto) := if preM P x.2 x.1 name then (evsM (r.ev fm) args x.2).bind (kM2 P r x.1 name) else none
noncomputable def kAt (P : Par) (name : Str) (x : V × Sto) : Option (V × Sto) := (attrM P x.2 x.1 name).bind (kV x.2)
noncomputable def kC3 (μ : Sto) (c : Bool) : Option (V × Sto) := some (.d (.bool c), μ)
noncomputable def kC2 (op : CmpOp) (a : V) (x : V × Sto) : Option (V × Sto) := (cmpM x.2 op a x.1).bind (kC3 x.2)
noncomputable def kC1 (r : Rec) (fm : Fm) (op : CmpOp) (e : Expr) (x : V × Sto) : Option (V × Sto) := (r.ev fm e x.2).bind (kC2 op x.1)
noncomputable def kT3 (μ : Sto) (c : Bool) : Option (Bool × Sto) := some (c, μ)
noncomputable def kT2 (op : CmpOp) (a : V) (x : V × Sto) : Option (Bool × Sto) := (cmpM x.2 op a x.1).bind (kT3 x.2)
noncomputable def kT1 (r : Rec) (fm : Fm) (op : CmpOp) (e : Expr) (x : V × Sto) : Option (Bool × Sto) := (r.ev fm e x.2).bind (kT2 op x.1)
noncomputable def kS (a b c : Option V) (x : V × Sto) : Option (V × Sto) := (sliceM x.1 a b c).bind (kV x.2)
noncomputable def kI (k : V) (x : V × Sto) : Option (V × Sto) := (itemM x.2 x.1 k).bind (kV x.2)
noncomputable def kI2 (o : V) (x : V × Sto) : Option (V × Sto) := (itemM x.2 o x.1).bind (kV x.2)
noncomputable def kI1 (r : Rec) (fm : Fm) (e : Expr) (x : V × Sto) : Option (V × Sto) := (r.ev fm e x.2).bind (kI2 x.1)
noncomputable def kB2 (op : Operator) (u : PyData) (x : V × Sto) : Option (V × Sto) := (datOf x.1).bind fun v => (binD op u v).bind (kD x.2)
noncomputable def kB1 (r : Rec) (fm : Fm) (op : Operator) (e : Expr) (x : V × Sto) : Option (V × Sto) := (r.ev fm e x.2).bind fun b => (datOf x.1).bind fun u => kB2 op u b
noncomputable def kIf (r : Rec) (fm : Fm) (b o : Expr) (x : Bool × Sto) : Option (V × Sto) := if x.1 then r.ev fm b x.2 else r.ev fm o x.2
noncomputable def kL (x : List V × Sto) : Option (V × Sto) := (dataM x.1).bind fun xs => some (.d (.list xs), x.2)
noncomputable def kLm (x : List V × Sto) : Option (V × Sto) := (dataM x.1).bind fun xs => some (.obj x.2.length, x.2 ++ [.list xs])
noncomputable def kT (x : List V × Sto) : Option (V × Sto) := (dataM x.1).bind fun xs => some (.d (.tuple xs), x.2)
noncomputable def kE2 (v : V) (x : List V × Sto) : Option (List V × Sto) := some (v :: x.1, x.2)
noncomputable def kE1 (ev : Expr -> Sto -> Option (V × Sto)) (l : List Expr) (x : V × Sto) : Option (List V × Sto) := (evsM ev l x.2).bind (kE2 x.1)
noncomputable def kLd (x : List PyData × Sto) : Option (V × Sto) := if smallLen x.1 then some (.d (.list x.1), x.2) else none
noncomputable def kLc (r : Rec) (csc : Scope) (ρ : Loc) (elt tgt : Expr) (ifs : List Expr) (x : (Bool × List PyData) × Sto) : Option (V × Sto) := if x.1.1 && !isPairT tgt then none else (compM r ⟨csc, ρ⟩ elt tgt ifs x.1.2 x.2).bind kLd
noncomputable def kLc2 (P : Par) (r : Rec) (csc : Scope) (ρ : Loc) (elt tgt : Expr) (ifs : List Expr) (tgt2 it2 : Expr) (ifs2 : List Expr) (x : (Bool × List PyData) × Sto) : Option (V × Sto) := if x.1.1 && !isPairT tgt then none else (compM2 P r ⟨csc, ρ⟩ elt tgt ifs tgt2 it2 ifs2 x.1.2 x.2).bind kLd
noncomputable def kIt (x : V × Sto) : Option ((Bool × List PyData) × Sto) := (seqOf x.1).bind fun l => some ((false, l), x.2)
noncomputable def kLw (μ : Sto) (l : Bool × List PyData) : Option ((Bool × List PyData) × Sto) := some (l, μ)
noncomputable def kLz (g : V) (x : List V × Sto) : Option ((Bool × List PyData) × Sto) := (lazyM g x.1).bind (kLw x.2)
noncomputable def kBo (ev : Expr -> Sto -> Option (V × Sto)) (op : BoolOp) (l : List Expr) (x : V × Sto) : Option (V × Sto) := boolK op x.1 x.2 (boolM ev op l x.2)
noncomputable def kAo (tr : Expr -> Sto -> Option (Bool × Sto)) (l : List Expr) (x : Bool × Sto) : Option (Bool × Sto) := if x.1 then some (true, x.2) else allM tr .Or l x.2
noncomputable def kAa (tr : Expr -> Sto -> Option (Bool × Sto)) (l : List Expr) (x : Bool × Sto) : Option (Bool × Sto) := if x.1 then allM tr .And l x.2 else some (false, x.2)
noncomputable def kNot (x : Bool × Sto) : Option (Bool × Sto) := some (!x.1, x.2)
noncomputable def kTb (x : V × Sto) : Option (Bool × Sto) := (boolOf x.1).bind fun b => some (b, x.2)
noncomputable def kTs (tr : Expr -> Sto -> Option (Bool × Sto)) (cs : List Expr) (x : Bool × Sto) : Option (Bool × Sto) := if x.1 then testsM tr cs x.2 else some (false, x.2)
noncomputable def thenX (P : Par) (r : Rec) (sc : Scope) (rest : List Stmt) (x : Flw × Loc × Sto) : FX := thenF x fun ρ μ => stepExs P r sc rest ρ μ
noncomputable def kRet (ρ : Loc) (x : V × Sto) : FX := some (.ret x.1, ρ, x.2)
noncomputable def kAs (sc : Scope) (n : Str) (ρ : Loc) (x : V × Sto) : FX := if okN sc true n then some (.next, setL n x.1 ρ, x.2) else none
noncomputable def kNx (μ : Sto) (ρ : Loc) : FX := some (.next, ρ, μ)
noncomputable def kTt (sc : Scope) (ts : List Expr) (ρ : Loc) (x : List V × Sto) : FX := (bindAll sc ts x.1 ρ).bind (kNx x.2)
noncomputable def kTi (sc : Scope) (t : Expr) (ρ : Loc) (x : V × Sto) : FX := (datOf x.1).bind fun d => (bindT sc true t d ρ).bind (kNx x.2)
noncomputable def kSt4 (ρ : Loc) (μ : Sto) : FX := some (.next, ρ, μ)
noncomputable def kSt3 (ρ : Loc) (v ov : V) (x : V × Sto) : FX := (storeM x.2 ov x.1 v).bind (kSt4 ρ)
noncomputable def kSt2 (r : Rec) (sc : Scope) (i : Expr) (ρ : Loc) (v : V) (x : V × Sto) : FX := (r.ev ⟨sc, ρ⟩ i x.2).bind (kSt3 ρ v x.1)
noncomputable def kSt1 (r : Rec) (sc : Scope) (o i : Expr) (ρ : Loc) (x : V × Sto) : FX := (r.ev ⟨sc, ρ⟩ o x.2).bind (kSt2 r sc i ρ x.1)
noncomputable def kIfS (r : Rec) (sc : Scope) (b o : List Stmt) (ρ : Loc) (x : Bool × Sto) : FX := if x.1 then r.exs sc b ρ x.2 else r.exs sc o ρ x.2
noncomputable def kFor (r : Rec) (sc : Scope) (tgt : Expr) (body : List Stmt) (ρ : Loc) (x : (Bool × List PyData) × Sto) : FX := if x.1.1 && !isPairT tgt then none else forM r sc tgt body x.1.2 ρ x.2
noncomputable def kEx (ρ : Loc) (x : V × Sto) : FX := (datOf x.1).bind fun d => if isNoneD d then some (.next, ρ, x.2) else none
noncomputable def kFn (m : Nat) (x : Flw × Loc × Sto) : Option (V × Sto) := fnEnd m x
theorem c_call {g : V} {f : Str} {q p : Pos} {args : List Expr} (h : nameM P fm f = some g) : (Lvl P (n + 1)).ev fm (.Call (.Name f q) args [] p) μ = (evsM ((Lvl P n).ev fm) args μ).bind (kCall (Lvl P n) g) := by
 show (nameM P fm f).bind _ = _
 rw [h]; rfl
theorem b_call {g : V} : (some (vs, μ)).bind (kCall r g) = r.call g vs μ := rfl
theorem c_meth {ob : Expr} {name : Str} {ap pos : Pos} {args : List Expr} (h : okMeth ob ap pos args = true) : (Lvl P (n + 1)).ev fm (.Call (.Attribute ob name ap) args [] pos) μ = ((Lvl P n).ev fm ob μ).bind (kM1 P (Lvl P n) fm name args) := by
 show (if okMeth ob ap pos args then _ else none) = _
 rw [if_pos h]; rfl
theorem b_m1 {name : Str} {args : List Expr} : (some (o, μ)).bind (kM1 P r fm name args) = if preM P μ o name then (evsM (r.ev fm) args μ).bind (kM2 P r o name) else none := rfl
theorem b_m2 {name : Str} : (some (vs, μ)).bind (kM2 P r o name) = callMeth P r o name vs μ := rfl
theorem c_attr {ob : Expr} {name : Str} {p : Pos} (h : plainBase ob = true) : (Lvl P (n + 1)).ev fm (.Attribute ob name p) μ = ((Lvl P n).ev fm ob μ).bind (kAt P name) := by
 show (if plainBase ob then _ else none) = _
 rw [if_pos h]; rfl
theorem b_at {name : Str} : (some (o, μ)).bind (kAt P name) = (attrM P μ o name).bind (kV μ) := rfl
theorem b_v : (some v).bind (kV μ) = some (v, μ) := rfl
theorem b_d {x : PyData} : (some x).bind (kD μ) = some (.d x, μ) := rfl
theorem c_cmp {l x : Expr} {op : CmpOp} {p : Pos} (h : behindInMarks op x = false) : (Lvl P (n + 1)).ev fm (.Compare l [op] [x] p) μ = ((Lvl P n).ev fm l μ).bind (kC1 (Lvl P n) fm op x) := by
 show (if behindInMarks op x then none else _) = _
 rw [h]; rfl
theorem b_c1 {op : CmpOp} {x : Expr} : (some (v, μ)).bind (kC1 r fm op x) = (r.ev fm x μ).bind (kC2 op v) := rfl
theorem b_c2 {op : CmpOp} : (some (v, μ)).bind (kC2 op o) = (cmpM μ op o v).bind (kC3 μ) := rfl
theorem b_c3 {c : Bool} : (some c).bind (kC3 μ) = some (.d (.bool c), μ) := rfl
theorem c_tcmp {l x : Expr} {op : CmpOp} {p : Pos} (h : behindInMarks op x = false) : (Lvl P (n + 1)).tr fm (.Compare l [op] [x] p) μ = ((Lvl P n).ev fm l μ).bind (kT1 (Lvl P n) fm op x) := by
 show (if behindInMarks op x then none else _) = _
 rw [h]; rfl
theorem b_t1 {op : CmpOp} {x : Expr} : (some (v, μ)).bind (kT1 r fm op x) = (r.ev fm x μ).bind (kT2 op v) := rfl
theorem b_t2 {op : CmpOp} : (some (v, μ)).bind (kT2 op o) = (cmpM μ op o v).bind (kT3 μ) := rfl
theorem b_t3 {c : Bool} : (some c).bind (kT3 μ) = some (c, μ) := rfl
theorem c_con {c : Const} {k : Nat} {p : Pos} (h : constM c = some v) : (Lvl P (n + 1)).ev fm (.Constant c k p) μ = some (v, μ) := pure1_ok h
theorem c_sl1 {ob : Expr} {c : Const} {k : Nat} {p1 q p : Pos} {a : V} (h : constM c = some a) : (Lvl P (n + 3)).ev fm (.Subscript ob (.Slice (some (.Constant c k p1)) none none q) p) μ = ((Lvl P (n + 2)).ev fm ob μ).bind (kS (some a) none none) := by
 show ((Lvl P (n + 2)).ev fm ob μ).bind _ = _
 congr 1; funext x
 show (((Lvl P (n + 2)).ev fm (.Constant c k p1) x.2).bind _).bind _ = _
 rw [c_con h]; rfl
theorem c_sl2 {ob : Expr} {c : Const} {k : Nat} {p1 q p : Pos} {a : V} (h : constM c = some a) : (Lvl P (n + 3)).ev fm (.Subscript ob (.Slice none (some (.Constant c k p1)) none q) p) μ = ((Lvl P (n + 2)).ev fm ob μ).bind (kS none (some a) none) := by
 show ((Lvl P (n + 2)).ev fm ob μ).bind _ = _
 congr 1; funext x
 show (((Lvl P (n + 2)).ev fm (.Constant c k p1) x.2).bind _).bind _ = _
 rw [c_con h]; rfl
theorem c_neg {i : Int} {k : Nat} {q p : Pos} (h : smallI i = true) : (Lvl P (n + 2)).ev fm (.UnaryOp .USub (.Constant (.int i) k q) p) μ = some (.d (.int (-i)), μ) := by
 show (if smallI i = true then some (V.d (.int (-i)), μ) else none) = _
 rw [if_pos h]
theorem c_sl3 {ob : Expr} {i : Int} {k : Nat} {p1 p2 q p : Pos} (hs : smallI i = true) : (Lvl P (n + 3)).ev fm (.Subscript ob (.Slice none none (some (.UnaryOp .USub (.Constant (.int i) k p1) p2)) q) p) μ = ((Lvl P (n + 2)).ev fm ob μ).bind (kS none none (some (.d (.int (-i))))) := by
 show ((Lvl P (n + 2)).ev fm ob μ).bind _ = _
 congr 1; funext x
 show (((Lvl P (n + 2)).ev fm (.UnaryOp .USub (.Constant (.int i) k p1) p2) x.2).bind _).bind _ = _
 rw [c_neg hs]; rfl
theorem b_s {a b c : Option V} : (some (o, μ)).bind (kS a b c) = (sliceM o a b c).bind (kV μ) := rfl
theorem c_item {ob i : Expr} {p : Pos} {k : V} (h : pureE P fm i = some k) : (Lvl P (n + 3)).ev fm (.Subscript ob i p) μ = ((Lvl P (n + 2)).ev fm ob μ).bind (kI k) := by
 show evSub _ fm ob i μ = _
 unfold evSub
 cases hs : sliceE i with
 | some q => exact (of_sliceE hs).elim fun p e => by rw [e] at h; exact no_some h
 | none =>
   show ((Lvl P (n + 2)).ev fm ob μ).bind (fun o => ((Lvl P (n + 2)).ev fm i o.2).bind fun a => (itemM a.2 o.1 a.1).bind fun x => some (x, a.2)) = _
   congr 1; funext x
   rw [pureE_ok h]; rfl
theorem b_i {k : V} : (some (o, μ)).bind (kI k) = (itemM μ o k).bind (kV μ) := rfl
theorem c_itemC {ob f : Expr} {p q : Pos} {x : List Expr} {k : List Keyword} : (Lvl P (n + 1)).ev fm (.Subscript ob (.Call f x k q) p) μ = ((Lvl P n).ev fm ob μ).bind (kI1 (Lvl P n) fm (.Call f x k q)) := rfl
theorem b_i1 {i : Expr} : (some (o, μ)).bind (kI1 r fm i) = (r.ev fm i μ).bind (kI2 o) := rfl
theorem b_i2 : (some (v, μ)).bind (kI2 o) = (itemM μ o v).bind (kV μ) := rfl
theorem c_bin {l x : Expr} {op : Operator} {p : Pos} : (Lvl P (n + 1)).ev fm (.BinOp l op x p) μ = ((Lvl P n).ev fm l μ).bind (kB1 (Lvl P n) fm op x) := rfl
theorem b_b1 {op : Operator} {x : Expr} {u : PyData} : (some (V.d u, μ)).bind (kB1 r fm op x) = (r.ev fm x μ).bind (kB2 op u) := rfl
theorem b_b2 {op : Operator} {u w : PyData} : (some (V.d w, μ)).bind (kB2 op u) = (binD op u w).bind (kD μ) := rfl
theorem c_if {t b o : Expr} {p : Pos} : (Lvl P (n + 1)).ev fm (.IfExp t b o p) μ = ((Lvl P n).tr fm t μ).bind (kIf (Lvl P n) fm b o) := rfl
theorem b_if {b o : Expr} {c : Bool} : (some (c, μ)).bind (kIf r fm b o) = if c then r.ev fm b μ else r.ev fm o μ := rfl
theorem c_dict {p : Pos} : (Lvl P (n + 1)).ev fm (.Dict [] [] p) μ = some (.obj μ.length, μ ++ [.dict []]) := rfl
theorem c_list {elts : List Expr} {p : Pos} (h : (decide (elts.length < 100) && !mutDisplay elts) = true) : (Lvl P (n + 1)).ev fm (.List elts p) μ = (evsM ((Lvl P n).ev fm) elts μ).bind kL := by
 rw [Bool.and_eq_true, Bool.not_eq_true'] at h
 show (if decide (elts.length < 100) then (evsM ((Lvl P n).ev fm) elts μ).bind (fun x => (dataM x.1).bind fun xs => some (if mutDisplay elts then _ else _)) else none) = _
 rw [if_pos h.1, h.2]; rfl
theorem b_l {xs : List PyData} (h : dataM vs = some xs) : (some (vs, μ)).bind kL = some (.d (.list xs), μ) := by
 show (dataM vs).bind _ = _
 rw [h]; rfl
theorem c_listm {elts : List Expr} {p : Pos} (h : (decide (elts.length < 100) && mutDisplay elts) = true) : (Lvl P (n + 1)).ev fm (.List elts p) μ = (evsM ((Lvl P n).ev fm) elts μ).bind kLm := by
 rw [Bool.and_eq_true] at h
 show (if decide (elts.length < 100) then (evsM ((Lvl P n).ev fm) elts μ).bind (fun x => (dataM x.1).bind fun xs => some (if mutDisplay elts then _ else _)) else none) = _
 rw [if_pos h.1, h.2]; rfl
theorem b_lm {xs : List PyData} (h : dataM vs = some xs) : (some (vs, μ)).bind kLm = some (.obj μ.length, μ ++ [.list xs]) := by
 show (dataM vs).bind _ = _
 rw [h]; rfl
theorem c_tuple {elts : List Expr} {k : Nat} {p : Pos} (h : decide (elts.length < 100) = true) : (Lvl P (n + 1)).ev fm (.Tuple elts k p) μ = (evsM ((Lvl P n).ev fm) elts μ).bind kT := by
 show (if decide (elts.length < 100) then _ else none) = _
 rw [if_pos h]; rfl
theorem b_tu {xs : List PyData} (h : dataM vs = some xs) : (some (vs, μ)).bind kT = some (.d (.tuple xs), μ) := by
 show (dataM vs).bind _ = _
 rw [h]; rfl
theorem c_evs {ev : Expr -> Sto -> Option (V × Sto)} {l : List Expr} : evsM ev (e :: l) μ = (ev e μ).bind (kE1 ev l) := rfl
theorem c_evs0 {ev : Expr -> Sto -> Option (V × Sto)} : evsM ev [] μ = some ([], μ) := rfl
theorem b_e1 {ev : Expr -> Sto -> Option (V × Sto)} {l : List Expr} : (some (v, μ)).bind (kE1 ev l) = (evsM ev l μ).bind (kE2 v) := rfl
theorem b_e2 : (some (vs, μ)).bind (kE2 v) = some (v :: vs, μ) := rfl
theorem c_bool {op : BoolOp} {l : List Expr} {p : Pos} : (Lvl P (n + 1)).ev fm (.BoolOp op l p) μ = boolM ((Lvl P n).ev fm) op l μ := rfl
theorem c_bo1 {ev : Expr -> Sto -> Option (V × Sto)} {op : BoolOp} : boolM ev op [e] μ = ev e μ := rfl
theorem c_bo2 {ev : Expr -> Sto -> Option (V × Sto)} {op : BoolOp} {y : Expr} {l : List Expr} : boolM ev op (e :: y :: l) μ = (ev e μ).bind (kBo ev op (y :: l)) := rfl
theorem b_and {ev : Expr -> Sto -> Option (V × Sto)} {y : Expr} {l : List Expr} {b : Bool} : (some (V.d (.bool b), μ)).bind (kBo ev .And (y :: l)) = if b then boolM ev .And (y :: l) μ else some (.d (.bool false), μ) := by cases b <;> rfl
theorem b_or {ev : Expr -> Sto -> Option (V × Sto)} {y : Expr} {l : List Expr} {b : Bool} : (some (V.d (.bool b), μ)).bind (kBo ev .Or (y :: l)) = if b then some (.d (.bool true), μ) else boolM ev .Or (y :: l) μ := by cases b <;> rfl
theorem c_lc {elt : Expr} {gens : List Comprehension} {csc : Scope} {p : Pos} : (Lvl P (n + 1)).ev fm (.ListComp elt gens csc p) μ = listCompM P (Lvl P n) fm elt gens csc μ := rfl
theorem c_lc1 {elt tgt it : Expr} {ifs : List Expr} {csc : Scope} (h : compOk csc fm = true) (hd : forceL (dropL csc fm.loc) = some ρ') : listCompM P r fm elt [⟨tgt, it, ifs, 0⟩] csc μ = (iterM P r fm it μ).bind (kLc r csc ρ' elt tgt ifs) := by
 show (if !compOk csc fm then none else (iterM P r fm it μ).bind (kLc r csc (dropL csc fm.loc) elt tgt ifs)) = _
 rw [h, force_eq hd]; rfl
theorem c_lc1' {elt tgt it : Expr} {ifs : List Expr} {csc : Scope} : listCompM P r fm elt [⟨tgt, it, ifs, 0⟩] csc μ = if !compOk csc fm then none else (iterM P r fm it μ).bind (kLc r csc (dropL csc fm.loc) elt tgt ifs) := rfl
theorem c_lc2 {elt tgt it tgt2 it2 : Expr} {ifs ifs2 : List Expr} {csc : Scope} (h : compOk csc fm = true) (hs : isSetE it2 = false) (hd : forceL (dropL csc fm.loc) = some ρ') : listCompM P r fm elt [⟨tgt, it, ifs, 0⟩, ⟨tgt2, it2, ifs2, 0⟩] csc μ = (iterM P r fm it μ).bind (kLc2 P r csc ρ' elt tgt ifs tgt2 it2 ifs2) := by
 show (if !compOk csc fm then none else if isSetE it2 then none else (iterM P r fm it μ).bind (kLc2 P r csc (dropL csc fm.loc) elt tgt ifs tgt2 it2 ifs2)) = _
 rw [h, hs, force_eq hd]; rfl
theorem c_lc2' {elt tgt it tgt2 it2 : Expr} {ifs ifs2 : List Expr} {csc : Scope} (hs : isSetE it2 = false) : listCompM P r fm elt [⟨tgt, it, ifs, 0⟩, ⟨tgt2, it2, ifs2, 0⟩] csc μ = if !compOk csc fm then none else (iterM P r fm it μ).bind (kLc2 P r csc (dropL csc fm.loc) elt tgt ifs tgt2 it2 ifs2) := by
 show (if !compOk csc fm then none else if isSetE it2 then none else (iterM P r fm it μ).bind (kLc2 P r csc (dropL csc fm.loc) elt tgt ifs tgt2 it2 ifs2)) = _
 rw [hs]; rfl
theorem b_lc {csc : Scope} {elt tgt : Expr} {ifs : List Expr} {ow : Bool} {l : List PyData} (h : (ow && !isPairT tgt) = false) : (some ((ow, l), μ)).bind (kLc r csc ρ elt tgt ifs) = (compM r ⟨csc, ρ⟩ elt tgt ifs l μ).bind kLd := by
 show (if ow && !isPairT tgt then none else _) = _
 rw [h]; rfl
theorem b_lc2 {csc : Scope} {elt tgt tgt2 it2 : Expr} {ifs ifs2 : List Expr} {ow : Bool} {l : List PyData} (h : (ow && !isPairT tgt) = false) : (some ((ow, l), μ)).bind (kLc2 P r csc ρ elt tgt ifs tgt2 it2 ifs2) = (compM2 P r ⟨csc, ρ⟩ elt tgt ifs tgt2 it2 ifs2 l μ).bind kLd := by
 show (if ow && !isPairT tgt then none else _) = _
 rw [h]; rfl
theorem b_ld {ys : List PyData} : (some (ys, μ)).bind kLd = if smallLen ys then some (.d (.list ys), μ) else none := rfl
noncomputable def plainIt (e : Expr) : Bool := (callN e).isNone && !isSetE e
theorem c_it (h : plainIt e = true) : iterM P r fm e μ = (r.ev fm e μ).bind kIt := by
 unfold iterM
 rw [Option.isNone_iff_eq_none.mp (and_t h).1, not_t (and_t h).2]; rfl
theorem b_itl {l : List PyData} : (some (V.d (.list l), μ)).bind kIt = some ((false, l), μ) := rfl
theorem b_itt {l : List PyData} : (some (V.d (.tuple l), μ)).bind kIt = some ((false, l), μ) := rfl
theorem c_lazy {g : V} {f : Str} {q p : Pos} {args : List Expr} (h : nameM P fm f = some g) (hz : isLazy g = true) : iterM P r fm (.Call (.Name f q) args [] p) μ = (evsM (r.ev fm) args μ).bind (kLz g) := by
 show (nameM P fm f).bind _ = _
 rw [h]
 show (if isLazy g then _ else _) = _
 rw [if_pos hz]; rfl
theorem b_lz {g : V} : (some (vs, μ)).bind (kLz g) = (lazyM g vs).bind (kLw μ) := rfl
theorem b_lw {l : Bool × List PyData} : (some l).bind (kLw μ) = some (l, μ) := rfl
theorem c_itc {g : V} {f : Str} {q p : Pos} {args : List Expr} (h : nameM P fm f = some g) (hz : isLazy g = false) : iterM P r fm (.Call (.Name f q) args [] p) μ = (r.ev fm (.Call (.Name f q) args [] p) μ).bind kIt := by
 show (nameM P fm f).bind _ = _
 rw [h]
 show (if isLazy g then _ else _) = _
 rw [hz]; rfl
theorem c_not {x : Expr} {p : Pos} : (Lvl P (n + 1)).tr fm (.UnaryOp .Not x p) μ = ((Lvl P n).tr fm x μ).bind kNot := rfl
theorem b_not {b : Bool} : (some (b, μ)).bind kNot = some (!b, μ) := rfl
theorem c_tbool {op : BoolOp} {l : List Expr} {p : Pos} : (Lvl P (n + 1)).tr fm (.BoolOp op l p) μ = allM ((Lvl P n).tr fm) op l μ := rfl
theorem c_or0 {tr : Expr -> Sto -> Option (Bool × Sto)} : allM tr .Or [] μ = some (false, μ) := rfl
theorem c_and0 {tr : Expr -> Sto -> Option (Bool × Sto)} : allM tr .And [] μ = some (true, μ) := rfl
theorem c_or {tr : Expr -> Sto -> Option (Bool × Sto)} {l : List Expr} : allM tr .Or (e :: l) μ = (tr e μ).bind (kAo tr l) := all_or
theorem c_and {tr : Expr -> Sto -> Option (Bool × Sto)} {l : List Expr} : allM tr .And (e :: l) μ = (tr e μ).bind (kAa tr l) := all_and
theorem b_ao {tr : Expr -> Sto -> Option (Bool × Sto)} {l : List Expr} {b : Bool} : (some (b, μ)).bind (kAo tr l) = if b then some (true, μ) else allM tr .Or l μ := rfl
theorem b_aa {tr : Expr -> Sto -> Option (Bool × Sto)} {l : List Expr} {b : Bool} : (some (b, μ)).bind (kAa tr l) = if b then allM tr .And l μ else some (false, μ) := rfl
theorem c_tcall {f : Expr} {args : List Expr} {k : List Keyword} {p : Pos} : (Lvl P (n + 1)).tr fm (.Call f args k p) μ = ((Lvl P n).ev fm (.Call f args k p) μ).bind kTb := rfl
theorem b_tb {b : Bool} : (some (V.d (.bool b), μ)).bind kTb = some (b, μ) := rfl
theorem c_ts0 {tr : Expr -> Sto -> Option (Bool × Sto)} : testsM tr [] μ = some (true, μ) := rfl
theorem c_ts {tr : Expr -> Sto -> Option (Bool × Sto)} {l : List Expr} : testsM tr (e :: l) μ = (tr e μ).bind (kTs tr l) := rfl
theorem b_ts {tr : Expr -> Sto -> Option (Bool × Sto)} {l : List Expr} {b : Bool} : (some (b, μ)).bind (kTs tr l) = if b then testsM tr l μ else some (false, μ) := rfl
theorem exs_then {s : Stmt} {rest : List Stmt} : stepExs P r sc (s :: rest) ρ μ = (stepEx P r sc s ρ μ).bind (thenX P r sc rest) := rfl
theorem c_exs0 : stepExs P r sc [] ρ μ = some (.next, ρ, μ) := rfl
theorem thenX_next {rest : List Stmt} : thenX P r sc rest (.next, ρ, μ) = stepExs P r sc rest ρ μ := rfl
theorem b_next {rest : List Stmt} : (some (Flw.next, ρ, μ)).bind (thenX P r sc rest) = stepExs P r sc rest ρ μ := rfl
theorem b_ret {rest : List Stmt} : (some (Flw.ret v, ρ, μ)).bind (thenX P r sc rest) = some (.ret v, ρ, μ) := rfl
theorem x_ret {p : Pos} : stepEx P r sc (.Return (some e) p) ρ μ = (r.ev ⟨sc, ρ⟩ e μ).bind (kRet ρ) := rfl
theorem b_kret : (some (v, μ)).bind (kRet ρ) = some (.ret v, ρ, μ) := rfl
noncomputable def plainR (e : Expr) : Bool := (lcE e).isNone && !isSDC e
theorem x_as {x : Str} {q p : Pos} (h : plainR e = true) : stepEx P r sc (.Assign [.Name x q] e p) ρ μ = (r.ev ⟨sc, ρ⟩ e μ).bind (kAs sc x ρ) := by
 show (match lcE e with | some q => _ | none => if isSDC e then none else _) = _
 rw [Option.isNone_iff_eq_none.mp (and_t h).1, not_t (and_t h).2]; rfl
theorem x_alc {x : Str} {q p p' : Pos} {elt : Expr} {gens : List Comprehension} {csc : Scope} : stepEx P r sc (.Assign [.Name x q] (.ListComp elt gens csc p) p') ρ μ = (listCompM P r ⟨sc, ρ⟩ elt gens csc μ).bind (kAs sc x ρ) := rfl
theorem b_as {x : Str} (h : okN sc true x = true) (hl : forceL (setL x v ρ) = some ρ') : (some (v, μ)).bind (kAs sc x ρ) = some (.next, ρ', μ) := by
 show (if okN sc true x then _ else none) = _
 rw [if_pos h, force_eq hl]
theorem b_as' {x : Str} (h : okN sc true x = true) : (some (v, μ)).bind (kAs sc x ρ) = some (.next, setL x v ρ, μ) := by
 show (if okN sc true x then _ else none) = _
 rw [if_pos h]
theorem x_tt {ts es : List Expr} {k k' : Nat} {p p' p'' : Pos} {ns : List Str} (h1 : targetNames ts = some ns) (h2 : (distinct ns && decide (es.length < 100) && !es.all (constantsAlone 8)) = true) : stepEx P r sc (.Assign [.Tuple ts k p] (.Tuple es k' p') p'') ρ μ = (evsM (r.ev ⟨sc, ρ⟩) es μ).bind (kTt sc ts ρ) := by
 show (evsM (r.ev ⟨sc, ρ⟩) es μ).bind (fun us => (targetNames ts).bind fun ns => if distinct ns && decide (es.length < 100) && !es.all (constantsAlone 8) then _ else none) = _
 rw [h1]
 congr 1; funext us
 show (if distinct ns && decide (es.length < 100) && !es.all (constantsAlone 8) then _ else none) = _
 rw [if_pos h2]; rfl
theorem b_tt {ts : List Expr} : (some (vs, μ)).bind (kTt sc ts ρ) = (bindAll sc ts vs ρ).bind (kNx μ) := rfl
theorem b_nx : (some ρ).bind (kNx μ) = some (.next, ρ, μ) := rfl
theorem ba_nil : bindAll sc [] [] ρ = some ρ := rfl
theorem ba_cons {x : Str} {p : Pos} {ts : List Expr} (h : okN sc true x = true) : bindAll sc (.Name x p :: ts) (v :: vs) ρ = bindAll sc ts vs (setL x v ρ) := by
 show (if okN sc true x then _ else none) = _
 rw [if_pos h]
theorem x_ti {ts : List Expr} {k : Nat} {p p' p'' : Pos} {t b o : Expr} : stepEx P r sc (.Assign [.Tuple ts k p] (.IfExp t b o p') p'') ρ μ = (r.ev ⟨sc, ρ⟩ (.IfExp t b o p') μ).bind (kTi sc (.Tuple ts k p) ρ) := rfl
theorem b_ti {t : Expr} {d : PyData} : (some (V.d d, μ)).bind (kTi sc t ρ) = (bindT sc true t d ρ).bind (kNx μ) := rfl
theorem x_store {ob i : Expr} {p p' : Pos} : stepEx P r sc (.Assign [.Subscript ob i p] e p') ρ μ = (r.ev ⟨sc, ρ⟩ e μ).bind (kSt1 r sc ob i ρ) := rfl
theorem b_st1 {ob i : Expr} : (some (v, μ)).bind (kSt1 r sc ob i ρ) = (r.ev ⟨sc, ρ⟩ ob μ).bind (kSt2 r sc i ρ v) := rfl
theorem b_st2 {i : Expr} : (some (o, μ)).bind (kSt2 r sc i ρ v) = (r.ev ⟨sc, ρ⟩ i μ).bind (kSt3 ρ v o) := rfl
theorem b_st3 {k : V} : (some (k, μ)).bind (kSt3 ρ v o) = (storeM μ o k v).bind (kSt4 ρ) := rfl
theorem b_st4 : (some μ).bind (kSt4 ρ) = some (.next, ρ, μ) := rfl
theorem x_if {t : Expr} {b o : List Stmt} {p : Pos} : stepEx P r sc (.If t b o p) ρ μ = (r.tr ⟨sc, ρ⟩ t μ).bind (kIfS r sc b o ρ) := rfl
theorem b_ifs {b o : List Stmt} {c : Bool} : (some (c, μ)).bind (kIfS r sc b o ρ) = if c then r.exs sc b ρ μ else r.exs sc o ρ μ := rfl
theorem x_for {tgt it : Expr} {body : List Stmt} {p : Pos} : stepEx P r sc (.For tgt it body [] p) ρ μ = (iterM P r ⟨sc, ρ⟩ it μ).bind (kFor r sc tgt body ρ) := rfl
theorem b_for {tgt : Expr} {body : List Stmt} {ow : Bool} {l : List PyData} (h : (ow && !isPairT tgt) = false) : (some ((ow, l), μ)).bind (kFor r sc tgt body ρ) = forM r sc tgt body l ρ μ := by
 show (if ow && !isPairT tgt then none else _) = _
 rw [h]; rfl
theorem x_while {t : Expr} {body : List Stmt} {p : Pos} : stepEx P r sc (.While t body [] p) ρ μ = whileM r sc t body turns ρ μ := rfl
theorem x_expr {f : Expr} {a : List Expr} {k : List Keyword} {q p : Pos} : stepEx P r sc (.Expr (.Call f a k q) p) ρ μ = (r.ev ⟨sc, ρ⟩ (.Call f a k q) μ).bind (kEx ρ) := rfl
theorem b_ex : (some (V.d .none, μ)).bind (kEx ρ) = some (.next, ρ, μ) := rfl
theorem b_fnr {m : Nat} : (some (Flw.ret v, ρ, μ)).bind (kFn m) = some (freeze m v μ) := rfl
theorem b_fnn {m : Nat} : (some (Flw.next, ρ, μ)).bind (kFn m) = some (.d .none, μ) := rfl
noncomputable def exsZ (P : Par) (n : Nat) (sc : Scope) (l : List Stmt) (ps : List Str) (vs : List V) (μ : Sto) : FX := (Lvl P n).exs sc l (ps.zip vs) μ
theorem call_fn {a : Addr} {fi : FnI} (h : P.fn a = some fi) (hl : fi.params.length = vs.length) :
   (Lvl P (n + 1)).call (.con (.ref a)) vs μ = (exsZ P n fi.sc fi.body fi.params vs μ).bind (kFn μ.length) := by
 show callR P _ a vs μ = _
 unfold callR
 rw [h]
 show (if fi.params.length == vs.length then _ else none) = _
 rw [if_pos (by rw [hl]; exact beq_self_eq_true _)]; rfl
theorem lvl_exz {l : List Stmt} {ps : List Str} (h : forceL (ps.zip vs) = some ρ) : exsZ P (n + 1) sc l ps vs μ = stepExs P (Lvl P n) sc l ρ μ := by rw [exsZ, force_eq h]; rfl
noncomputable def isP1 (e : Expr) : Bool := Nat.beq e.ctorIdx 23 || Nat.beq e.ctorIdx 19
noncomputable def isPE (e : Expr) : Bool := match tupE e with
 | some l => l.all isP1
 | none => isP1 e
theorem d_evs {ev : Expr -> Sto -> Option (V × Sto)} {l : List Expr} (h : (e :: l).all isPE = false) : evsM ev (e :: l) μ = (ev e μ).bind (kE1 ev l) := rfl
theorem d_tuple {elts : List Expr} {k : Nat} {p : Pos} (h : (decide (elts.length < 100) && !elts.all isP1) = true) : (Lvl P (n + 1)).ev fm (.Tuple elts k p) μ = (evsM ((Lvl P n).ev fm) elts μ).bind kT := c_tuple (by rw [Bool.and_eq_true] at h; exact h.1)
theorem c_nm {x : Str} {p : Pos} : (Lvl P (n + 1)).ev fm (.Name x p) μ = (nameM P fm x).bind (kV μ) := rfl
section
variable {l x ob : Expr} {op : CmpOp} {p q ap pos : Pos} {a b k : V} {args : List Expr} {g : V} {f name : Str}
theorem d_cmp (hn : (isPE l && isPE x) = false) (h : behindInMarks op x = false) : (Lvl P (n + 1)).ev fm (.Compare l [op] [x] p) μ = ((Lvl P n).ev fm l μ).bind (kC1 (Lvl P n) fm op x) := c_cmp h
theorem d_tcmp (hn : (isPE l && isPE x) = false) (h : behindInMarks op x = false) : (Lvl P (n + 1)).tr fm (.Compare l [op] [x] p) μ = ((Lvl P n).ev fm l μ).bind (kT1 (Lvl P n) fm op x) := c_tcmp h
theorem p_cmp (h : behindInMarks op x = false) (h1 : pureE P fm l = some a) (h2 : pureE P fm x = some b) : (Lvl P (n + 3)).ev fm (.Compare l [op] [x] p) μ = (cmpM μ op a b).bind (kC3 μ) := by
 rw [c_cmp h, pureE_ok h1, b_c1, pureE_ok h2]; rfl
theorem p_tcmp (h : behindInMarks op x = false) (h1 : pureE P fm l = some a) (h2 : pureE P fm x = some b) : (Lvl P (n + 3)).tr fm (.Compare l [op] [x] p) μ = (cmpM μ op a b).bind (kT3 μ) := by
 rw [c_tcmp h, pureE_ok h1, b_t1, pureE_ok h2]; rfl
theorem d_call (hn : args.all isPE = false) (h : nameM P fm f = some g) : (Lvl P (n + 1)).ev fm (.Call (.Name f q) args [] p) μ = (evsM ((Lvl P n).ev fm) args μ).bind (kCall (Lvl P n) g) := c_call h
theorem p_call (h : nameM P fm f = some g) (h1 : pureEs P fm args = some vs) : (Lvl P (n + 3)).ev fm (.Call (.Name f q) args [] p) μ = (Lvl P (n + 2)).call g vs μ := by
 rw [c_call h, pureEs_ok h1]; rfl
theorem d_meth (hn : (isPE ob && args.all isPE) = false) (h : okMeth ob ap pos args = true) : (Lvl P (n + 1)).ev fm (.Call (.Attribute ob name ap) args [] pos) μ = ((Lvl P n).ev fm ob μ).bind (kM1 P (Lvl P n) fm name args) := c_meth h
theorem p_meth (h : okMeth ob ap pos args = true) (h1 : pureE P fm ob = some o) (h2 : pureEs P fm args = some vs) : (Lvl P (n + 3)).ev fm (.Call (.Attribute ob name ap) args [] pos) μ = if preM P μ o name then callMeth P (Lvl P (n + 2)) o name vs μ else none := by
 rw [c_meth h, pureE_ok h1, b_m1, pureEs_ok h2]; rfl
theorem d_attr (hn : isPE ob = false) (h : plainBase ob = true) : (Lvl P (n + 1)).ev fm (.Attribute ob name p) μ = ((Lvl P n).ev fm ob μ).bind (kAt P name) := c_attr h
theorem p_attr (h : plainBase ob = true) (h1 : pureE P fm ob = some o) : (Lvl P (n + 3)).ev fm (.Attribute ob name p) μ = (attrM P μ o name).bind (kV μ) := by
 rw [c_attr h, pureE_ok h1]; rfl
theorem d_item (hn : isPE ob = false) {i : Expr} (h : pureE P fm i = some k) : (Lvl P (n + 3)).ev fm (.Subscript ob i p) μ = ((Lvl P (n + 2)).ev fm ob μ).bind (kI k) := c_item h
theorem p_item {i : Expr} (h : pureE P fm i = some k) (h1 : pureE P fm ob = some o) : (Lvl P (n + 3)).ev fm (.Subscript ob i p) μ = (itemM μ o k).bind (kV μ) := by
 rw [c_item h, pureE_ok h1]; rfl
theorem d_bin {op : Operator} (hn : (isPE l && isPE x) = false) : (Lvl P (n + 1)).ev fm (.BinOp l op x p) μ = ((Lvl P n).ev fm l μ).bind (kB1 (Lvl P n) fm op x) := c_bin
theorem p_bin {op : Operator} {u w : PyData} (h1 : pureE P fm l = some (.d u)) (h2 : pureE P fm x = some (.d w)) : (Lvl P (n + 3)).ev fm (.BinOp l op x p) μ = (binD op u w).bind (kD μ) := by
 rw [c_bin, pureE_ok h1, b_b1, pureE_ok h2]; rfl
theorem d_ret (hn : isPE e = false) : stepEx P r sc (.Return (some e) p) ρ μ = (r.ev ⟨sc, ρ⟩ e μ).bind (kRet ρ) := x_ret
theorem p_ret (h : pureE P ⟨sc, ρ⟩ e = some v) : stepEx P (Lvl P (n + 2)) sc (.Return (some e) p) ρ μ = some (.ret v, ρ, μ) := by
 rw [x_ret, pureE_ok h]; rfl
theorem d_as {x : Str} (hn : isPE e = false) (h : plainR e = true) : stepEx P r sc (.Assign [.Name x q] e p) ρ μ = (r.ev ⟨sc, ρ⟩ e μ).bind (kAs sc x ρ) := x_as h
theorem p_as {x : Str} (h : pureE P ⟨sc, ρ⟩ e = some v) (h1 : plainR e = true) (h2 : okN sc true x = true) (h3 : forceL (setL x v ρ) = some ρ') : stepEx P (Lvl P (n + 2)) sc (.Assign [.Name x q] e p) ρ μ = some (.next, ρ', μ) := by
 rw [x_as h1, pureE_ok h]; exact b_as h2 h3
theorem d_lazy (hn : args.all isPE = false) (h : nameM P fm f = some g) (hz : isLazy g = true) : iterM P r fm (.Call (.Name f q) args [] p) μ = (evsM (r.ev fm) args μ).bind (kLz g) := c_lazy h hz
theorem p_lazy (h : nameM P fm f = some g) (hz : isLazy g = true) (h1 : pureEs P fm args = some vs) : iterM P (Lvl P (n + 2)) fm (.Call (.Name f q) args [] p) μ = (lazyM g vs).bind (kLw μ) := by
 rw [c_lazy h hz, pureEs_ok h1]; rfl
theorem d_it (hn : isPE e = false) (h : plainIt e = true) : iterM P r fm e μ = (r.ev fm e μ).bind kIt := c_it h
theorem p_it {l : List PyData} (h : plainIt e = true) (h1 : pureE P fm e = some v) (h2 : seqOf v = some l) : iterM P (Lvl P (n + 2)) fm e μ = some ((false, l), μ) := by
 rw [c_it h, pureE_ok h1]; show (seqOf v).bind _ = _; rw [h2]; rfl
theorem d_sl1 {c : Const} {j : Nat} {p1 : Pos} {a : V} (hn : isPE ob = false) (h : constM c = some a) : (Lvl P (n + 3)).ev fm (.Subscript ob (.Slice (some (.Constant c j p1)) none none q) p) μ = ((Lvl P (n + 2)).ev fm ob μ).bind (kS (some a) none none) := c_sl1 h
theorem d_sl2 {c : Const} {j : Nat} {p1 : Pos} {a : V} (hn : isPE ob = false) (h : constM c = some a) : (Lvl P (n + 3)).ev fm (.Subscript ob (.Slice none (some (.Constant c j p1)) none q) p) μ = ((Lvl P (n + 2)).ev fm ob μ).bind (kS none (some a) none) := c_sl2 h
theorem p_sl1 {c : Const} {j : Nat} {p1 : Pos} {a : V} (h : constM c = some a) (h1 : pureE P fm ob = some o) : (Lvl P (n + 3)).ev fm (.Subscript ob (.Slice (some (.Constant c j p1)) none none q) p) μ = (sliceM o (some a) none none).bind (kV μ) := by
 rw [c_sl1 h, pureE_ok h1]; rfl
theorem p_sl2 {c : Const} {j : Nat} {p1 : Pos} {a : V} (h : constM c = some a) (h1 : pureE P fm ob = some o) : (Lvl P (n + 3)).ev fm (.Subscript ob (.Slice none (some (.Constant c j p1)) none q) p) μ = (sliceM o none (some a) none).bind (kV μ) := by
 rw [c_sl2 h, pureE_ok h1]; rfl
end
end
end Mine.L
end
section
namespace Mine.L
open PySem
theorem if_ff {α : Type} {a b : α} : (if false = true then a else b) = b := rfl
theorem if_tt {α : Type} {a b : α} : (if true = true then a else b) = a := rfl
theorem freeze_d (n : Nat) (x : PyData) (μ : Sto) : freeze n (.d x) μ = (.d x, μ) := rfl
section
variable {α β : Type} {r : Rec} {fm : Fm} {elt tgt : Expr} {ifs : List Expr} {μ μ1 μ2 μ3 : Sto} {ρ ρ' : Loc} {x y : PyData} {xs ys : List PyData}
theorem cm_skip (h1 : bindT fm.sc false tgt x fm.loc = some ρ) (h2 : testsM (r.tr ⟨fm.sc, ρ⟩) ifs μ = some (false, μ1)) : compM r fm elt tgt ifs (x :: xs) μ = compM r fm elt tgt ifs xs μ1 := by
 show (bindT fm.sc false tgt x fm.loc).bind _ = _
 rw [h1]
 show (testsM (r.tr ⟨fm.sc, ρ⟩) ifs μ).bind _ = _
 rw [h2]; rfl
theorem cm_take (h1 : bindT fm.sc false tgt x fm.loc = some ρ) (h2 : testsM (r.tr ⟨fm.sc, ρ⟩) ifs μ = some (true, μ1)) (h3 : r.ev ⟨fm.sc, ρ⟩ elt μ1 = some (.d y, μ2)) (h4 : compM r fm elt tgt ifs xs μ2 = some (ys, μ3)) : compM r fm elt tgt ifs (x :: xs) μ = some (y :: ys, μ3) := by
 show (bindT fm.sc false tgt x fm.loc).bind _ = _
 rw [h1]
 show (testsM (r.tr ⟨fm.sc, ρ⟩) ifs μ).bind _ = _
 rw [h2]
 show (r.ev ⟨fm.sc, ρ⟩ elt μ1).bind _ = _
 rw [h3]
 show (compM r fm elt tgt ifs xs μ2).bind _ = _
 rw [h4]; rfl
theorem comp_inv {I : Sto -> Prop} (e : α -> PyData) (ρ : α -> Loc) (b : α -> Bool) (f : α -> PyData) (l : List α) : ∀ μ : Sto,
   (∀ x ∈ l, bindT fm.sc false tgt (e x) fm.loc = some (ρ x) /\ ∀ μ, I μ -> ∃ μ', I μ' /\ testsM (r.tr ⟨fm.sc, ρ x⟩) ifs μ = some (b x, μ') /\ (b x = true -> ∃ μ'', I μ'' /\ r.ev ⟨fm.sc, ρ x⟩ elt μ' = some (.d (f x), μ''))) -> I μ ->
   ∃ μ', I μ' /\ compM r fm elt tgt ifs (l.map e) μ = some ((l.filter b).map f, μ') := by
 induction l with
 | nil => exact fun μ _ hI => ⟨μ, hI, rfl⟩
 | cons x l ih =>
   intro μ h hI
   have h1 := h x (List.mem_cons_self ..)
   obtain ⟨μ1, I1, h3, h4⟩ := h1.2 μ hI
   have hr := fun y hy => h y (List.mem_cons_of_mem _ hy)
   clear h
   cases hb : b x with
   | false =>
     rw [hb] at h3
     exact (ih μ1 hr I1).elim fun μ2 q => ⟨μ2, q.1, by rw [List.filter_cons_of_neg (by rw [hb]; decide)]; exact (cm_skip h1.1 h3).trans q.2⟩
   | true =>
     rw [hb] at h3
     exact (h4 hb).elim fun μ2 p => (ih μ2 hr p.1).elim fun μ3 q => ⟨μ3, q.1, by rw [List.filter_cons_of_pos hb]; exact cm_take h1.1 h3 p.2 q.2⟩
theorem comp_pure (e : α -> PyData) (ρ : α -> Loc) (b : α -> Bool) (f : α -> PyData) (l : List α)
   (h : ∀ x ∈ l, bindT fm.sc false tgt (e x) fm.loc = some (ρ x) /\ testsM (r.tr ⟨fm.sc, ρ x⟩) ifs μ = some (b x, μ) /\ (b x = true -> r.ev ⟨fm.sc, ρ x⟩ elt μ = some (.d (f x), μ))) :
   compM r fm elt tgt ifs (l.map e) μ = some ((l.filter b).map f, μ) :=
 (comp_inv (I := fun m => m = μ) e ρ b f l μ (fun x hx => ⟨(h x hx).1, fun m hm => ⟨m, hm, hm ▸ (h x hx).2.1, fun hb => ⟨m, hm, hm ▸ (h x hx).2.2 hb⟩⟩⟩) rfl).elim fun m q => q.2.trans (by rw [q.1])
theorem comp2_pure {tgt2 it2 : Expr} {ifs2 : List Expr} (e : α -> PyData) (ρ : α -> Loc) (g : α -> List β) (e2 : β -> PyData) (ρ2 : α -> β -> Loc) (b2 : α -> β -> Bool) (f : α -> β -> PyData) (l : List α)
   (h : ∀ x ∈ l, bindT fm.sc false tgt (e x) fm.loc = some (ρ x) /\ (∃ ow, iterM PP r ⟨fm.sc, ρ x⟩ it2 μ = some ((ow, (g x).map e2), μ) /\ (ow && !isPairT tgt2) = false) /\
     ∀ y ∈ g x, bindT fm.sc false tgt2 (e2 y) (ρ x) = some (ρ2 x y) /\ testsM (r.tr ⟨fm.sc, ρ2 x y⟩) ifs2 μ = some (b2 x y, μ) /\ (b2 x y = true -> r.ev ⟨fm.sc, ρ2 x y⟩ elt μ = some (.d (f x y), μ))) :
   compM2 PP r fm elt tgt [] tgt2 it2 ifs2 (l.map e) μ = some (l.flatMap fun x => ((g x).filter (b2 x)).map (f x), μ) := by
 induction l with
 | nil => rfl
 | cons x l ih =>
   have hx := h x (List.mem_cons_self ..)
   have ih := ih fun y hy => h y (List.mem_cons_of_mem _ hy)
   clear h
   have hc := comp_pure (r := r) (fm := ⟨fm.sc, ρ x⟩) (elt := elt) (tgt := tgt2) (ifs := ifs2) (μ := μ) e2 (ρ2 x) (b2 x) (f x) (g x) hx.2.2
   obtain ⟨ow, h2, h4⟩ := hx.2.1
   show (bindT fm.sc false tgt (e x) fm.loc).bind _ = _
   rw [hx.1]
   show (iterM PP r ⟨fm.sc, ρ x⟩ it2 μ).bind _ = _
   rw [h2]
   show (if (ow && !isPairT tgt2) = true then none else (compM r ⟨fm.sc, ρ x⟩ elt tgt2 ifs2 ((g x).map e2) μ).bind _) = _
   rw [h4, hc]
   show (compM2 PP r fm elt tgt [] tgt2 it2 ifs2 (l.map e) μ).bind _ = _
   rw [ih, List.flatMap_cons]; rfl
end
noncomputable def compKS (sc0 : Scope) (ks : List Str) (p : Str × NameKind) : Bool := match p.2 with
 | .local => true
 | .globalImplicit => true
 | .free => ks.contains p.1 && (sc0.names.lookup p.1 == some .cell || sc0.names.lookup p.1 == some .free)
 | _ => false
noncomputable def compOkS (sc sc0 : Scope) (ks : List Str) : Bool := sc.kind == .function && sc.names.all fun p => sc.names.lookup p.1 == some p.2 && p.1 != ("__classdict__" : Str) && compKS sc0 ks p
theorem lookup_keys (k : Str) (ρ : Loc) : (ρ.lookup k).isSome = (ρ.map (·.1)).contains k := by
 induction ρ with
 | nil => rfl
 | cons p l ih =>
   obtain ⟨a, v⟩ := p
   rw [List.lookup_cons, List.map_cons, List.contains_cons]
   cases h : (k == a) with
   | true => rfl
   | false => rw [Bool.false_or]; exact ih
theorem cok_eq {sc sc0 : Scope} {ρ : Loc} : compOk sc ⟨sc0, ρ⟩ = compOkS sc sc0 (ρ.map (·.1)) := by
 have e : compK ⟨sc0, ρ⟩ = compKS sc0 (ρ.map (·.1)) := by
   funext p
   obtain ⟨a, k⟩ := p
   cases k <;> first | rfl | exact congrArg (· && _) (lookup_keys a ρ)
 unfold compOk compOkS
 rw [e]
theorem cok_if {csc sc0 : Scope} {ρ : Loc} (h : compOkS csc sc0 (ρ.map (·.1)) = true) {α : Type} {x y : α} : (if (!compOk csc ⟨sc0, ρ⟩) = true then x else y) = y := by rw [cok_eq, h]; rfl
theorem drop_nil {sc : Scope} : dropL sc [] = [] := rfl
theorem drop_out {sc : Scope} {k : Str} {v : V} {l : Loc} (h : (sc.names.lookup k == some .local) = true) : dropL sc ((k, v) :: l) = dropL sc l := by
 unfold dropL; rw [List.filter_cons_of_neg (by simp only [h]; decide)]
theorem drop_keep {sc : Scope} {k : Str} {v : V} {l : Loc} (h : (sc.names.lookup k == some .local) = false) : dropL sc ((k, v) :: l) = (k, v) :: dropL sc l := by
 unfold dropL; rw [List.filter_cons_of_pos (by simp only [h]; decide)]
theorem set_nil {k : Str} {v : V} : setL k v [] = [(k, v)] := rfl
theorem set_hit {k : Str} {v u : V} {l : Loc} : setL k v ((k, u) :: l) = (k, v) :: l := by
 show (if k == k then _ else _) = _
 rw [beq_self_eq_true]; rfl
theorem set_miss {k j : Str} {v u : V} {l : Loc} (h : (j == k) = false) : setL k v ((j, u) :: l) = (j, u) :: setL k v l := by
 show (if j == k then _ else _) = _
 rw [h]; rfl
section
variable {r : Rec} {sc : Scope} {tgt : Expr} {body : List Stmt} {μ μ1 : Sto} {ρ ρ1 ρ2 : Loc} {x : PyData} {xs : List PyData} {v : V}
theorem fm_next (h1 : bindT sc true tgt x ρ = some ρ1) (h2 : r.exs sc body ρ1 μ = some (.next, ρ2, μ1)) : forM r sc tgt body (x :: xs) ρ μ = forM r sc tgt body xs ρ2 μ1 := by
 show (bindT sc true tgt x ρ).bind _ = _
 rw [h1]
 show (r.exs sc body ρ1 μ).bind _ = _
 rw [h2]; rfl
theorem fm_ret (h1 : bindT sc true tgt x ρ = some ρ1) (h2 : r.exs sc body ρ1 μ = some (.ret v, ρ2, μ1)) : forM r sc tgt body (x :: xs) ρ μ = some (.ret v, ρ2, μ1) := by
 show (bindT sc true tgt x ρ).bind _ = _
 rw [h1]
 show (r.exs sc body ρ1 μ).bind _ = _
 rw [h2]; rfl
theorem for_fold {α σ : Type} (e : α -> PyData) (L : σ -> Loc) (step : σ -> α -> σ) (I : σ -> List α -> Prop) (l : List α) : ∀ s : σ, I s l ->
   (∀ x l, ∀ s, I s (x :: l) -> I (step s x) l /\ ∃ ρ, bindT sc true tgt (e x) (L s) = some ρ /\ r.exs sc body ρ μ = some (.next, L (step s x), μ)) ->
   forM r sc tgt body (l.map e) (L s) μ = some (.next, L (l.foldl step s), μ) /\ I (l.foldl step s) [] := by
 induction l with
 | nil => exact fun s hs _ => ⟨rfl, hs⟩
 | cons x l ih =>
   intro s hs h
   obtain ⟨h1, ρ, h2, h3⟩ := h x l s hs
   exact ⟨(fm_next h2 h3).trans (ih (step s x) h1 h).1, (ih (step s x) h1 h).2⟩
end
theorem small_of {l : List PyData} (h : l.length <= 100000) : smallLen l = true := decide_eq_true h
theorem len_tup {l : List PyData} {μ : Sto} (h : l.length <= 100000) : builtinM μ (.builtin "len") [.d (.tuple l)] = some (.d (.int l.length), μ) := by
 show (if smallLen l then _ else _) = _
 rw [small_of h]; rfl
theorem cmp_int {μ : Sto} {a b : Int} : cmpM μ .Eq (.d (.int a)) (.d (.int b)) = some (decide (a = b)) := cmp_eq (okd_int _ _) (okd_int _ _) (by simp)
theorem cmp_str {μ : Sto} {a b : Str} (h1 : PyData.strOk a = true) (h2 : PyData.strOk b = true) : cmpM μ .Eq (.d (.str a)) (.d (.str b)) = some (decide (a = b)) := cmp_eq (okd_str h1 _) (okd_str h2 _) (by simp)
theorem len_enc (t : Tm) {μ : Sto} : builtinM μ (.builtin "len") [.d t.enc] = some (.d (.int (t.kids.length + 1)), μ) := by
 cases t <;> rfl
theorem op_enc (t : Tm) {μ : Sto} : itemM μ (.d t.enc) (.d (.int 0)) = some (.d (.str t.nm)) := by cases t <;> rfl
theorem rest_enc (t : Tm) : sliceM (.d t.enc) (some (.d (.int 1))) none none = some (.d (.tuple (t.kids.map Tm.enc))) := by cases t <;> rfl
theorem nm_size (t : Tm) : decide (t.nm.cps.size <= 100000) = true := by
 cases t with
 | leaf l => cases l <;> rfl
 | un u s => cases u <;> rfl
 | bin v s t => cases v <;> rfl
theorem first_of (t : Tm) : sliceM (.d (.str t.nm)) none (some (.d (.int 1))) none = some (.d (.str ⟨(t.nm.cps.toList.take 1).toArray⟩)) := if_pos (nm_size t)
theorem first_eq (t : Tm) {μ : Sto} (h : t.kids = []) : cmpM μ .Eq (.d (.str ⟨(t.nm.cps.toList.take 1).toArray⟩)) (.d (.str "?")) = some t.isVar := by
 cases t with
 | leaf l =>
   rw [cmp_str (by cases l <;> decide +kernel) (by decide +kernel)]; cases l <;> decide +kernel
 | un u s => cases h
 | bin v s t => cases h
theorem is_var_fn (n : Nat) (t : Tm) (μ : Sto) : (Lvl PP (n + 8)).call (.con (.ref 62)) [.d t.enc] μ = some (.d (.bool t.isVar), μ) := by
 rw [call_fn (show PP.fn 62 = some ⟨_, _, _⟩ from rfl) rfl]
 simp -implicitDefEqProofs (disch := first | exact keq rfl | decide | exact Nat.le_trans (by decide) (Nat.le_add_left _ _) | (simp only [List.map_cons, List.map_nil]; decide)) only [↓pureE_ok, ↓pureEs_ok, ↓d_evs, ↓d_tuple, b_as, ↓c_lc1, ↓c_lc2, ↓d_call, ↓p_call, ↓d_meth, ↓p_meth, ↓d_attr, ↓p_attr, ↓d_cmp, ↓p_cmp, ↓d_tcmp, ↓p_tcmp, ↓d_sl1, ↓p_sl1, ↓d_sl2, ↓p_sl2, ↓d_item, ↓p_item, ↓d_bin, ↓p_bin, ↓d_it, ↓p_it, ↓d_lazy, ↓p_lazy, ↓d_ret, ↓p_ret, ↓d_as, ↓p_as, b_call, b_m1, b_m2, b_at, b_v, b_d, b_c1, b_c2, b_c3, b_t1, b_t2, b_t3, ↓c_sl3, b_s, b_i, ↓c_itemC, b_i1, b_i2, b_b1, b_b2, ↓c_neg, ↓c_if, b_if, ↓c_dict, ↓c_list, b_l, ↓c_listm, b_lm, b_tu, ↓c_evs0, b_e1, b_e2, ↓c_bool, ↓c_bo1, ↓c_bo2, b_and, b_or, ↓c_lc, b_lc, b_lc2, b_ld, b_itl, b_itt, b_lz, b_lw, ↓c_itc, ↓c_not, b_not, ↓c_tbool, ↓c_or0, ↓c_and0, ↓c_or, ↓c_and, b_ao, b_aa, ↓c_tcall, b_tb, ↓c_ts0, ↓c_ts, b_ts, ↓exs_then, ↓c_exs0, b_next, b_ret, b_kret, ↓x_alc, ↓x_tt, b_tt, b_nx, ba_nil, ba_cons, ↓x_ti, b_ti, ↓x_store, b_st1, b_st2, b_st3, b_st4, ↓x_if, b_ifs, ↓x_for, b_for, ↓x_while, ↓x_expr, b_ex, b_fnr, b_fnn, ↓lvl_exz, ↓lvl_exs, call_bi, call_ty, freeze_d, ↓if_tt, ↓if_ff, if_true, if_false, Bool.not_true, Bool.not_false, len_enc, cmp_int, op_enc, first_of]
 by_cases h : t.kids = []
 · simp only [first_eq t h, h, List.length_nil]
   rfl
 · have h' : t.isVar = false := by rw [<- Bool.not_eq_true]; exact fun e => h (var_kids e)
   have h2 : decide ((t.kids.length : Int) + 1 = 1) = false := by
     rw [decide_eq_false_iff_not]; intro e; exact h (List.length_eq_zero_iff.mp (by omega))
   simp only [h2, h']
   rfl
noncomputable def rnD (rs : List (Str × Int)) : List (PyData × PyData) := rs.map fun p => (.str p.1, .int p.2)
noncomputable def rkOf (rs : List (Str × Int)) (x : Str) : Int := (rs.lookup x).getD 0
theorem rn_lookup (rs : List (Str × Int)) (x : Str) : Spec.lookup (.str x) (rnD rs) = (rs.lookup x).map .int := by
 induction rs with
 | nil => rfl
 | cons p rs ih =>
   obtain ⟨a, i⟩ := p
   show (if Spec.same (.str a) (.str x) then some (.int i) else Spec.lookup (.str x) (rnD rs)) = _
   rw [ih, List.lookup_cons]
   have : Spec.same (.str a) (.str x) = (x == a) := by
     show (a == x) = (x == a)
     exact Bool.eq_iff_iff.mpr ⟨fun q => by rw [beq_iff_eq.mp q]; exact beq_self_eq_true _, fun q => by rw [beq_iff_eq.mp q]; exact beq_self_eq_true _⟩
   rw [this]
   cases (x == a) <;> rfl
theorem rn_keys (rs : List (Str × Int)) : strKeys (rnD rs) = true := by
 unfold strKeys rnD
 rw [List.all_map, List.all_eq_true]
 intro p _; rfl
noncomputable def IsRn (μ : Sto) (v : V) (rs : List (Str × Int)) : Prop := dictOf? μ v = some (rnD rs) /\ ∀ C j, v ≠ .inst C j
theorem rn_pre {μ : Sto} {v : V} {rs : List (Str × Int)} (h : IsRn μ v rs) : preM PP μ v "get" = true := by
 obtain ⟨h1, h2⟩ := h
 have : preM PP μ v "get" = preB μ v "get" := by
   cases v with
   | inst C j => exact absurd rfl (h2 C j)
   | _ => rfl
 rw [this]
 show (match dictOf? μ v with | some l => strKeys l | none => false) = true
 rw [h1]; exact rn_keys rs
theorem rn_get {μ : Sto} {v : V} {rs : List (Str × Int)} (h : IsRn μ v rs) (r : Rec) (x : Str) : callMeth PP r v "get" [.d (.str x), .d (.int 0)] μ = some (.d (.int (rkOf rs x)), μ) := by
 obtain ⟨h1, h2⟩ := h
 have : callMeth PP r v "get" [.d (.str x), .d (.int 0)] μ = methM μ v "get" [.d (.str x), .d (.int 0)] := by
   cases v with
   | inst C j => exact absurd rfl (h2 C j)
   | _ => rfl
 rw [this]
 show (dictOf? μ v).bind _ = _
 rw [h1]
 show (if (true && strKeys (rnD rs)) = true then some (V.d ((Spec.lookup (.str x) (rnD rs)).getD (.int 0)), μ) else none) = _
 rw [rn_keys, rn_lookup]
 unfold rkOf
 cases rs.lookup x <;> rfl
noncomputable def headD (rs : List (Str × Int)) (t : Tm) : List PyData := [.int (rkOf rs t.nm), .str t.nm, .int t.kids.length]
theorem sub_int {a b : Int} (h1 : smallI a = true) (h2 : smallI b = true) : binD .Sub (.int a) (.int b) = some (.int (a - b)) := by
 show (if _ then _ else _) = _
 rw [h1, h2]; rfl
theorem kids_le (t : Tm) : t.kids.length <= 2 := by cases t <;> exact Nat.le_of_ble_eq_true rfl
theorem small_kids (t : Tm) : smallI ((t.kids.length : Int) + 1) = true :=
 (by decide +kernel : ∀ n : Nat, n < 3 -> smallI ((n : Int) + 1) = true) _ (Nat.lt_succ_of_le (kids_le t))
theorem sub_one (t : Tm) : binD .Sub (.int ((t.kids.length : Int) + 1)) (.int 1) = some (.int t.kids.length) := by
 rw [sub_int (small_kids t) (by decide)]; exact congrArg (fun z => some (PyData.int z)) (Int.add_sub_cancel _ _)
theorem place_fn (n : Nat) {μ : Sto} {v : V} {rs : List (Str × Int)} (h : IsRn μ v rs) (t : Tm) : (Lvl PP (n + 10)).call (.con (.ref 74)) [v, .d t.enc] μ = some (.d (.tuple (headD rs t)), μ) := by
 rw [call_fn (show PP.fn 74 = some ⟨_, _, _⟩ from rfl) rfl]
 simp -implicitDefEqProofs (disch := first | exact keq rfl | decide | exact Nat.le_trans (by decide) (Nat.le_add_left _ _) | (simp only [List.map_cons, List.map_nil]; decide)) only [↓pureE_ok, ↓pureEs_ok, ↓d_evs, ↓d_tuple, b_as, ↓c_lc1, ↓c_lc2, ↓d_call, ↓p_call, ↓d_meth, ↓p_meth, ↓d_attr, ↓p_attr, ↓d_cmp, ↓p_cmp, ↓d_tcmp, ↓p_tcmp, ↓d_sl1, ↓p_sl1, ↓d_sl2, ↓p_sl2, ↓d_item, ↓p_item, ↓d_bin, ↓p_bin, ↓d_it, ↓p_it, ↓d_lazy, ↓p_lazy, ↓d_ret, ↓p_ret, ↓d_as, ↓p_as, b_call, b_m1, b_m2, b_at, b_v, b_d, b_c1, b_c2, b_c3, b_t1, b_t2, b_t3, ↓c_sl3, b_s, b_i, ↓c_itemC, b_i1, b_i2, b_b1, b_b2, ↓c_neg, ↓c_if, b_if, ↓c_dict, ↓c_list, b_l, ↓c_listm, b_lm, b_tu, ↓c_evs0, b_e1, b_e2, ↓c_bool, ↓c_bo1, ↓c_bo2, b_and, b_or, ↓c_lc, b_lc, b_lc2, b_ld, b_itl, b_itt, b_lz, b_lw, ↓c_itc, ↓c_not, b_not, ↓c_tbool, ↓c_or0, ↓c_and0, ↓c_or, ↓c_and, b_ao, b_aa, ↓c_tcall, b_tb, ↓c_ts0, ↓c_ts, b_ts, ↓exs_then, ↓c_exs0, b_next, b_ret, b_kret, ↓x_alc, ↓x_tt, b_tt, b_nx, ba_nil, ba_cons, ↓x_ti, b_ti, ↓x_store, b_st1, b_st2, b_st3, b_st4, ↓x_if, b_ifs, ↓x_for, b_for, ↓x_while, ↓x_expr, b_ex, b_fnr, b_fnn, ↓lvl_exz, ↓lvl_exs, call_bi, call_ty, freeze_d, ↓if_tt, ↓if_ff, if_true, if_false, Bool.not_true, Bool.not_false, len_enc, op_enc, rn_pre h, rn_get h, sub_one]
 rfl
theorem head_fn (n : Nat) {μ : Sto} {v : V} {rs : List (Str × Int)} (h : IsRn μ v rs) (t : Tm) : (Lvl PP (n + 10)).call (.con (.ref 194)) [v, .d t.enc] μ = some (.d (.list (headD rs t)), μ) := by
 rw [call_fn (show PP.fn 194 = some ⟨_, _, _⟩ from rfl) rfl]
 simp -implicitDefEqProofs (disch := first | exact keq rfl | decide | exact Nat.le_trans (by decide) (Nat.le_add_left _ _) | (simp only [List.map_cons, List.map_nil]; decide)) only [↓pureE_ok, ↓pureEs_ok, ↓d_evs, ↓d_tuple, b_as, ↓c_lc1, ↓c_lc2, ↓d_call, ↓p_call, ↓d_meth, ↓p_meth, ↓d_attr, ↓p_attr, ↓d_cmp, ↓p_cmp, ↓d_tcmp, ↓p_tcmp, ↓d_sl1, ↓p_sl1, ↓d_sl2, ↓p_sl2, ↓d_item, ↓p_item, ↓d_bin, ↓p_bin, ↓d_it, ↓p_it, ↓d_lazy, ↓p_lazy, ↓d_ret, ↓p_ret, ↓d_as, ↓p_as, b_call, b_m1, b_m2, b_at, b_v, b_d, b_c1, b_c2, b_c3, b_t1, b_t2, b_t3, ↓c_sl3, b_s, b_i, ↓c_itemC, b_i1, b_i2, b_b1, b_b2, ↓c_neg, ↓c_if, b_if, ↓c_dict, ↓c_list, b_l, ↓c_listm, b_lm, b_tu, ↓c_evs0, b_e1, b_e2, ↓c_bool, ↓c_bo1, ↓c_bo2, b_and, b_or, ↓c_lc, b_lc, b_lc2, b_ld, b_itl, b_itt, b_lz, b_lw, ↓c_itc, ↓c_not, b_not, ↓c_tbool, ↓c_or0, ↓c_and0, ↓c_or, ↓c_and, b_ao, b_aa, ↓c_tcall, b_tb, ↓c_ts0, ↓c_ts, b_ts, ↓exs_then, ↓c_exs0, b_next, b_ret, b_kret, ↓x_alc, ↓x_tt, b_tt, b_nx, ba_nil, ba_cons, ↓x_ti, b_ti, ↓x_store, b_st1, b_st2, b_st3, b_st4, ↓x_if, b_ifs, ↓x_for, b_for, ↓x_while, ↓x_expr, b_ex, b_fnr, b_fnn, ↓lvl_exz, ↓lvl_exs, call_bi, call_ty, freeze_d, ↓if_tt, ↓if_ff, if_true, if_false, Bool.not_true, Bool.not_false, len_enc, op_enc, rn_pre h, rn_get h, sub_one]
 rfl
end Mine.L
end
section
namespace Mine.L
open PySem
noncomputable def namesOf : Tm -> List Str
 | .leaf l => [l.nm]
 | .un u s => u.nm :: namesOf s
 | .bin v s t => v.nm :: (namesOf s ++ namesOf t)
theorem pow_two (a b : Nat) {x y : Nat} (hx : x + 1 <= 2 ^ (a + 1)) (hy : y + 1 <= 2 ^ (b + 1)) : x + y + 1 + 1 <= 2 ^ (max a b + 1 + 1) := by
 have a1 : 2 ^ (a + 1) <= 2 ^ (max a b + 1) := Nat.pow_le_pow_right (by decide) (Nat.succ_le_succ (Nat.le_max_left _ _))
 have a2 : 2 ^ (b + 1) <= 2 ^ (max a b + 1) := Nat.pow_le_pow_right (by decide) (Nat.succ_le_succ (Nat.le_max_right _ _))
 rw [Nat.pow_succ 2 (max a b + 1)]
 omega
theorem pow_one (a : Nat) {x : Nat} (hx : x + 1 <= 2 ^ (a + 1)) : x + 1 + 1 <= 2 ^ (a + 1 + 1) := by
 rw [Nat.pow_succ 2 (a + 1)]
 omega
theorem names_kids (t : Tm) : namesOf t = t.nm :: t.kids.flatMap namesOf := by
 cases t with
 | leaf => rfl
 | un u s => exact congrArg (u.nm :: ·) (List.append_nil _).symm
 | bin v s t => exact congrArg (fun z => v.nm :: (namesOf s ++ z)) (List.append_nil _).symm
theorem names_len : ∀ t : Tm, t.ht <= 3 -> (namesOf t).length <= 100 := by
 have : ∀ t : Tm, (namesOf t).length + 1 <= 2 ^ (t.ht + 1) := by
   intro t
   induction t with
   | leaf l => exact Nat.le_of_ble_eq_true rfl
   | un u s ih => exact pow_one _ ih
   | bin v s t h1 h2 =>
     have := pow_two _ _ h1 h2
     rw [<- List.length_append] at this
     exact this
 intro t h
 have h1 := this t
 have h2 : 2 ^ (t.ht + 1) <= 2 ^ 4 := Nat.pow_le_pow_right (by decide) (Nat.succ_le_succ h)
 omega
theorem add_list {a b : List PyData} (h : a.length + b.length <= 100000) : binD .Add (.list a) (.list b) = some (.list (a ++ b)) := by
 show (if decide _ then _ else _) = _
 rw [decide_eq_true h]; rfl
theorem names_fn : ∀ (t : Tm) (n : Nat) (μ : Sto), t.ht <= 3 -> (Lvl PP (n + 10 * t.ht + 10)).call (.con (.ref 211)) [.d t.enc] μ = some (.d (.list ((namesOf t).map .str)), μ) := by
 intro t
 induction h : t.ht using Nat.strongRecOn generalizing t with
 | _ m ih =>
 subst h
 intro n μ ht
 rw [call_fn (show PP.fn 211 = some ⟨_, _, _⟩ from rfl) rfl]
 simp -implicitDefEqProofs (disch := first | exact keq rfl | decide | exact Nat.le_trans (by decide) (Nat.le_add_left _ _) | (simp only [List.map_cons, List.map_nil]; decide)) only [↓pureE_ok, ↓pureEs_ok, ↓d_evs, ↓d_tuple, b_as, ↓c_lc1, ↓c_lc2, ↓d_call, ↓p_call, ↓d_meth, ↓p_meth, ↓d_attr, ↓p_attr, ↓d_cmp, ↓p_cmp, ↓d_tcmp, ↓p_tcmp, ↓d_sl1, ↓p_sl1, ↓d_sl2, ↓p_sl2, ↓d_item, ↓p_item, ↓d_bin, ↓p_bin, ↓d_it, ↓p_it, ↓d_lazy, ↓p_lazy, ↓d_ret, ↓p_ret, ↓d_as, ↓p_as, b_call, b_m1, b_m2, b_at, b_v, b_d, b_c1, b_c2, b_c3, b_t1, b_t2, b_t3, ↓c_sl3, b_s, b_i, ↓c_itemC, b_i1, b_i2, b_b1, b_b2, ↓c_neg, ↓c_if, b_if, ↓c_dict, ↓c_list, b_l, ↓c_listm, b_lm, b_tu, ↓c_evs0, b_e1, b_e2, ↓c_bool, ↓c_bo1, ↓c_bo2, b_and, b_or, ↓c_lc, b_lc, b_lc2, b_ld, b_itl, b_itt, b_lz, b_lw, ↓c_itc, ↓c_not, b_not, ↓c_tbool, ↓c_or0, ↓c_and0, ↓c_or, ↓c_and, b_ao, b_aa, ↓c_tcall, b_tb, ↓c_ts0, ↓c_ts, b_ts, ↓exs_then, ↓c_exs0, b_next, b_ret, b_kret, ↓x_alc, ↓x_tt, b_tt, b_nx, ba_nil, ba_cons, ↓x_ti, b_ti, ↓x_store, b_st1, b_st2, b_st3, b_st4, ↓x_if, b_ifs, ↓x_for, b_for, ↓x_while, ↓x_expr, b_ex, b_fnr, b_fnn, ↓lvl_exz, ↓lvl_exs, call_bi, call_ty, freeze_d, ↓if_tt, ↓if_ff, if_true, if_false, Bool.not_true, Bool.not_false, len_enc, op_enc, rest_enc]
 rw [comp2_pure Tm.enc (fun k => [("t", .d t.enc), ("kid", .d k.enc)]) namesOf .str (fun k x => [("t", .d t.enc), ("kid", .d k.enc), ("late", .d (.str x))]) (fun _ _ => true) (fun _ x => .str x) t.kids (fun k hk => ?_)]
 · have e : (t.kids.flatMap fun x => ((namesOf x).filter fun _ => true).map PyData.str) = (t.kids.flatMap namesOf).map .str := by
     rw [List.map_flatMap]; congr 1; funext x; rw [List.filter_eq_self.mpr (fun _ _ => rfl)]
   have hl := names_len t ht
   rw [names_kids, List.length_cons] at hl
   rw [e]
   have hsm : smallLen ((t.kids.flatMap namesOf).map PyData.str) = true := small_of (by rw [List.length_map]; omega)
   have ad : binD .Add (.list [.str t.nm]) (.list ((t.kids.flatMap namesOf).map PyData.str)) = some (.list ((namesOf t).map PyData.str)) := by
     rw [add_list (by simp only [List.length_cons, List.length_nil, List.length_map]; omega), names_kids t]; rfl
   simp -implicitDefEqProofs (disch := first | exact keq rfl | decide | exact Nat.le_trans (by decide) (Nat.le_add_left _ _) | (simp only [List.map_cons, List.map_nil]; decide)) only [↓pureE_ok, ↓pureEs_ok, ↓d_evs, ↓d_tuple, b_as, ↓c_lc1, ↓c_lc2, ↓d_call, ↓p_call, ↓d_meth, ↓p_meth, ↓d_attr, ↓p_attr, ↓d_cmp, ↓p_cmp, ↓d_tcmp, ↓p_tcmp, ↓d_sl1, ↓p_sl1, ↓d_sl2, ↓p_sl2, ↓d_item, ↓p_item, ↓d_bin, ↓p_bin, ↓d_it, ↓p_it, ↓d_lazy, ↓p_lazy, ↓d_ret, ↓p_ret, ↓d_as, ↓p_as, b_call, b_m1, b_m2, b_at, b_v, b_d, b_c1, b_c2, b_c3, b_t1, b_t2, b_t3, ↓c_sl3, b_s, b_i, ↓c_itemC, b_i1, b_i2, b_b1, b_b2, ↓c_neg, ↓c_if, b_if, ↓c_dict, ↓c_list, b_l, ↓c_listm, b_lm, b_tu, ↓c_evs0, b_e1, b_e2, ↓c_bool, ↓c_bo1, ↓c_bo2, b_and, b_or, ↓c_lc, b_lc, b_lc2, b_ld, b_itl, b_itt, b_lz, b_lw, ↓c_itc, ↓c_not, b_not, ↓c_tbool, ↓c_or0, ↓c_and0, ↓c_or, ↓c_and, b_ao, b_aa, ↓c_tcall, b_tb, ↓c_ts0, ↓c_ts, b_ts, ↓exs_then, ↓c_exs0, b_next, b_ret, b_kret, ↓x_alc, ↓x_tt, b_tt, b_nx, ba_nil, ba_cons, ↓x_ti, b_ti, ↓x_store, b_st1, b_st2, b_st3, b_st4, ↓x_if, b_ifs, ↓x_for, b_for, ↓x_while, ↓x_expr, b_ex, b_fnr, b_fnn, ↓lvl_exz, ↓lvl_exs, call_bi, call_ty, freeze_d, ↓if_tt, ↓if_ff, if_true, if_false, Bool.not_true, Bool.not_false, hsm, ad]
 · have hkt := ht_kid hk
   refine ⟨by rfl, ⟨false, ?_, rfl⟩, fun x _ => ⟨by rfl, rfl, fun _ => by rfl⟩⟩
   obtain ⟨d, hd⟩ : ∃ d, t.ht = k.ht + 1 + d := ⟨t.ht - k.ht - 1, by omega⟩
   have key := ih k.ht hkt k rfl (n + 10 * d + 5) μ (by omega)
   rw [show n + 10 * d + 5 + 10 * k.ht + 10 = n + 10 * t.ht + 5 by omega] at key
   simp -implicitDefEqProofs (disch := first | exact keq rfl | decide | exact Nat.le_trans (by decide) (Nat.le_add_left _ _) | (simp only [List.map_cons, List.map_nil]; decide)) only [↓pureE_ok, ↓pureEs_ok, ↓d_evs, ↓d_tuple, b_as, ↓c_lc1, ↓c_lc2, ↓d_call, ↓p_call, ↓d_meth, ↓p_meth, ↓d_attr, ↓p_attr, ↓d_cmp, ↓p_cmp, ↓d_tcmp, ↓p_tcmp, ↓d_sl1, ↓p_sl1, ↓d_sl2, ↓p_sl2, ↓d_item, ↓p_item, ↓d_bin, ↓p_bin, ↓d_it, ↓p_it, ↓d_lazy, ↓p_lazy, ↓d_ret, ↓p_ret, ↓d_as, ↓p_as, b_call, b_m1, b_m2, b_at, b_v, b_d, b_c1, b_c2, b_c3, b_t1, b_t2, b_t3, ↓c_sl3, b_s, b_i, ↓c_itemC, b_i1, b_i2, b_b1, b_b2, ↓c_neg, ↓c_if, b_if, ↓c_dict, ↓c_list, b_l, ↓c_listm, b_lm, b_tu, ↓c_evs0, b_e1, b_e2, ↓c_bool, ↓c_bo1, ↓c_bo2, b_and, b_or, ↓c_lc, b_lc, b_lc2, b_ld, b_itl, b_itt, b_lz, b_lw, ↓c_itc, ↓c_not, b_not, ↓c_tbool, ↓c_or0, ↓c_and0, ↓c_or, ↓c_and, b_ao, b_aa, ↓c_tcall, b_tb, ↓c_ts0, ↓c_ts, b_ts, ↓exs_then, ↓c_exs0, b_next, b_ret, b_kret, ↓x_alc, ↓x_tt, b_tt, b_nx, ba_nil, ba_cons, ↓x_ti, b_ti, ↓x_store, b_st1, b_st2, b_st3, b_st4, ↓x_if, b_ifs, ↓x_for, b_for, ↓x_while, ↓x_expr, b_ex, b_fnr, b_fnn, ↓lvl_exz, ↓lvl_exs, call_bi, call_ty, freeze_d, ↓if_tt, ↓if_ff, if_true, if_false, Bool.not_true, Bool.not_false, key]
end Mine.L
end
section
namespace Mine.L
open PySem
noncomputable def addNew (f g : List Tm) : List Tm := f ++ g.filter fun x => !f.contains x
noncomputable def insideOf : Tm -> List Tm
 | .leaf l => [.leaf l]
 | .un u s => addNew [.un u s] (insideOf s)
 | .bin v s t => addNew (addNew [.bin v s t] (insideOf s)) (insideOf t)
theorem inside_eq (t : Tm) : insideOf t = t.kids.foldl (fun f k => addNew f (insideOf k)) [t] := by cases t <;> rfl
noncomputable def insL (t : Tm) (s : List Tm × Option Tm) : Loc := (("t" : Str), V.d t.enc) :: (("found" : Str), V.d (.list (s.1.map Tm.enc))) :: (match s.2 with | some k => [(("kid" : Str), V.d k.enc)] | none => [])
theorem addNew_mem {f g : List Tm} {x : Tm} : x ∈ addNew f g ↔ x ∈ f \/ x ∈ g := by
 unfold addNew
 simp only [List.mem_append, List.mem_filter, Bool.not_eq_true', List.contains_eq_mem, decide_eq_false_iff_not]
 constructor
 · rintro (h | ⟨h, _⟩)
   · exact .inl h
   · exact .inr h
 · rintro (h | h)
   · exact .inl h
   · by_cases hf : x ∈ f
     · exact .inl hf
     · exact .inr ⟨h, hf⟩
theorem inside_ht : ∀ (t x : Tm), x ∈ insideOf t -> x.ht <= t.ht := by
 intro t
 induction t with
 | leaf l => intro x h; exact List.mem_singleton.mp h ▸ Nat.le_refl _
 | un u s ih =>
   intro x h
   rw [insideOf, addNew_mem] at h
   rcases h with h | h
   · exact List.mem_singleton.mp h ▸ Nat.le_refl _
   · exact Nat.le_succ_of_le (ih x h)
 | bin v s t h1 h2 =>
   intro x h
   rw [insideOf, addNew_mem, addNew_mem] at h
   rcases h with (h | h) | h
   · exact List.mem_singleton.mp h ▸ Nat.le_refl _
   · exact Nat.le_succ_of_le (Nat.le_trans (h1 x h) (Nat.le_max_left _ _))
   · exact Nat.le_succ_of_le (Nat.le_trans (h2 x h) (Nat.le_max_right _ _))
theorem any_enc {f : List Tm} {x : Tm} : (f.map Tm.enc).any (fun y => PyData.eqv y x.enc) = f.contains x := by
 rw [List.any_map]
 apply Bool.eq_iff_iff.mpr
 simp only [List.any_eq_true, Function.comp, List.contains_eq_mem, decide_eq_true_eq]
 constructor
 · rintro ⟨y, hy, e⟩
   rw [cl_eqv _ _ (enc_ok y).1 (enc_ok x).1, enc_iff] at e
   exact e ▸ hy
 · exact fun h => ⟨x, h, (cl_eqv _ _ (enc_ok x).1 (enc_ok x).1).mpr rfl⟩
theorem list_okd {f : List Tm} {k : Nat} (h : ∀ x ∈ f, x.ht <= k) : okd (.list (f.map Tm.enc)) (k + 2) := okd_list fun y hy => by
 obtain ⟨x, hx, rfl⟩ := List.mem_map.mp hy
 exact (enc_ok x).mono (Nat.succ_le_succ (h x hx))
theorem notin_tm {μ : Sto} {f : List Tm} {x : Tm} (h : x.ht <= 50) (hf : ∀ x ∈ f, x.ht <= 50) : cmpM μ .NotIn (.d x.enc) (.d (.list (f.map Tm.enc))) = some (!f.contains x) := by
 show notO (if okD x.enc && okD (.list (f.map Tm.enc)) then some _ else none) = _
 rw [((enc_ok x).mono (e60 h)).okD, ((list_okd hf).mono (Nat.le_of_ble_eq_true rfl)).okD]
 exact congrArg (fun b => some (!b)) any_enc
theorem inside_len : ∀ t : Tm, t.ht <= 2 -> (insideOf t).length <= 15 := by
 have ha : ∀ f g : List Tm, (addNew f g).length <= f.length + g.length := fun f g => by
   unfold addNew
   rw [List.length_append]
   exact Nat.add_le_add_left (List.length_filter_le ..) _
 have : ∀ t : Tm, (insideOf t).length + 1 <= 2 ^ (t.ht + 1) := by
   intro t
   induction t with
   | leaf l => exact Nat.le_of_ble_eq_true rfl
   | un u s ih =>
     refine Nat.le_trans (Nat.succ_le_succ (ha [.un u s] (insideOf s))) ?_
     rw [Nat.add_comm]; exact pow_one _ ih
   | bin v s t h1 h2 =>
     refine Nat.le_trans (Nat.succ_le_succ (Nat.le_trans (ha (addNew [.bin v s t] (insideOf s)) (insideOf t)) (Nat.add_le_add_right (ha [.bin v s t] (insideOf s)) _))) ?_
     rw [Nat.add_assoc, Nat.add_comm]; exact pow_two _ _ h1 h2
 intro t h
 have h1 := this t
 have h2 : 2 ^ (t.ht + 1) <= 2 ^ 3 := Nat.pow_le_pow_right (by decide) (Nat.succ_le_succ h)
 omega
theorem inside_fn : ∀ (t : Tm) (n : Nat) (μ : Sto), t.ht <= 3 -> (Lvl PP (n + 12 * t.ht + 12)).call (.con (.ref 187)) [.d t.enc] μ = some (.d (.list ((insideOf t).map Tm.enc)), μ) := by
 intro t
 induction h : t.ht using Nat.strongRecOn generalizing t with
 | _ m ih =>
 subst h
 intro n μ ht
 rw [call_fn (show PP.fn 187 = some ⟨_, _, _⟩ from rfl) rfl]
 simp -implicitDefEqProofs (disch := first | exact keq rfl | decide | exact Nat.le_trans (by decide) (Nat.le_add_left _ _) | (simp only [List.map_cons, List.map_nil]; decide)) only [↓pureE_ok, ↓pureEs_ok, ↓d_evs, ↓d_tuple, b_as, ↓c_lc1, ↓c_lc2, ↓d_call, ↓p_call, ↓d_meth, ↓p_meth, ↓d_attr, ↓p_attr, ↓d_cmp, ↓p_cmp, ↓d_tcmp, ↓p_tcmp, ↓d_sl1, ↓p_sl1, ↓d_sl2, ↓p_sl2, ↓d_item, ↓p_item, ↓d_bin, ↓p_bin, ↓d_it, ↓p_it, ↓d_lazy, ↓p_lazy, ↓d_ret, ↓p_ret, ↓d_as, ↓p_as, b_call, b_m1, b_m2, b_at, b_v, b_d, b_c1, b_c2, b_c3, b_t1, b_t2, b_t3, ↓c_sl3, b_s, b_i, ↓c_itemC, b_i1, b_i2, b_b1, b_b2, ↓c_neg, ↓c_if, b_if, ↓c_dict, ↓c_list, b_l, ↓c_listm, b_lm, b_tu, ↓c_evs0, b_e1, b_e2, ↓c_bool, ↓c_bo1, ↓c_bo2, b_and, b_or, ↓c_lc, b_lc, b_lc2, b_ld, b_itl, b_itt, b_lz, b_lw, ↓c_itc, ↓c_not, b_not, ↓c_tbool, ↓c_or0, ↓c_and0, ↓c_or, ↓c_and, b_ao, b_aa, ↓c_tcall, b_tb, ↓c_ts0, ↓c_ts, b_ts, ↓exs_then, ↓c_exs0, b_next, b_ret, b_kret, ↓x_alc, ↓x_tt, b_tt, b_nx, ba_nil, ba_cons, ↓x_ti, b_ti, ↓x_store, b_st1, b_st2, b_st3, b_st4, ↓x_if, b_ifs, ↓x_for, b_for, ↓x_while, ↓x_expr, b_ex, b_fnr, b_fnn, ↓lvl_exz, ↓lvl_exs, call_bi, call_ty, freeze_d, ↓if_tt, ↓if_ff, if_true, if_false, Bool.not_true, Bool.not_false, len_enc, op_enc, rest_enc]
 have e0 : ([(("t" : Str), V.d t.enc), (("found" : Str), V.d (.list [t.enc]))] : Loc) = insL t ([t], none) := rfl
 rw [e0, (for_fold Tm.enc (insL t) (fun s k => (addNew s.1 (insideOf k), some k)) (fun s l => (∀ x ∈ s.1, x.ht <= 3) /\ s.1.length + 20 * l.length <= 61 /\ ∀ k ∈ l, k ∈ t.kids) t.kids ([t], none)
   ⟨by simpa using ht, by have := kids_le t; simp only [List.length_cons, List.length_nil]; omega, fun _ h => h⟩ (fun k l s hs => ?_)).1]
 · have e1 : (t.kids.foldl (fun (s : List Tm × Option Tm) k => (addNew s.1 (insideOf k), some k)) ([t], none)).1 = insideOf t := by cases t <;> rfl
   generalize t.kids.foldl (fun (s : List Tm × Option Tm) k => (addNew s.1 (insideOf k), some k)) ([t], none) = q at e1
   obtain ⟨q1, q2⟩ := q
   subst e1
   rfl
 · obtain ⟨f, o⟩ := s
   obtain ⟨hs1, hs2, hs3⟩ := hs
   have hk := hs3 k (List.mem_cons_self ..)
   have hkt := ht_kid hk
   have hil := inside_len k (by omega)
   simp only [List.length_cons] at hs1 hs2
   have hfl : ((insideOf k).filter fun x => !f.contains x).length <= 15 := Nat.le_trans (List.length_filter_le ..) hil
   refine ⟨⟨fun x hx => ?_, ?_, fun x hx => hs3 x (List.mem_cons_of_mem _ hx)⟩, ?_⟩
   · rcases addNew_mem.mp hx with h | h
     · exact hs1 x h
     · have := inside_ht k x h; omega
   · simp only [addNew, List.length_append]; omega
   obtain ⟨d, hd⟩ : ∃ d, t.ht = k.ht + 1 + d := ⟨t.ht - k.ht - 1, by omega⟩
   refine ⟨(("t" : Str), V.d t.enc) :: (("found" : Str), V.d (.list (f.map Tm.enc))) :: [(("kid" : Str), V.d k.enc)], by cases o <;> rfl, ?_⟩
   have key := ih k.ht hkt k rfl (n + 12 * d + 6) μ (by omega)
   rw [show n + 12 * d + 6 + 12 * k.ht + 12 = n + 12 * t.ht + 6 by omega] at key
   simp -implicitDefEqProofs (disch := first | exact keq rfl | decide | exact Nat.le_trans (by decide) (Nat.le_add_left _ _) | (simp only [List.map_cons, List.map_nil]; decide)) only [↓pureE_ok, ↓pureEs_ok, ↓d_evs, ↓d_tuple, b_as, ↓c_lc1, ↓c_lc2, ↓d_call, ↓p_call, ↓d_meth, ↓p_meth, ↓d_attr, ↓p_attr, ↓d_cmp, ↓p_cmp, ↓d_tcmp, ↓p_tcmp, ↓d_sl1, ↓p_sl1, ↓d_sl2, ↓p_sl2, ↓d_item, ↓p_item, ↓d_bin, ↓p_bin, ↓d_it, ↓p_it, ↓d_lazy, ↓p_lazy, ↓d_ret, ↓p_ret, ↓d_as, ↓p_as, b_call, b_m1, b_m2, b_at, b_v, b_d, b_c1, b_c2, b_c3, b_t1, b_t2, b_t3, ↓c_sl3, b_s, b_i, ↓c_itemC, b_i1, b_i2, b_b1, b_b2, ↓c_neg, ↓c_if, b_if, ↓c_dict, ↓c_list, b_l, ↓c_listm, b_lm, b_tu, ↓c_evs0, b_e1, b_e2, ↓c_bool, ↓c_bo1, ↓c_bo2, b_and, b_or, ↓c_lc, b_lc, b_lc2, b_ld, b_itl, b_itt, b_lz, b_lw, ↓c_itc, ↓c_not, b_not, ↓c_tbool, ↓c_or0, ↓c_and0, ↓c_or, ↓c_and, b_ao, b_aa, ↓c_tcall, b_tb, ↓c_ts0, ↓c_ts, b_ts, ↓exs_then, ↓c_exs0, b_next, b_ret, b_kret, ↓x_alc, ↓x_tt, b_tt, b_nx, ba_nil, ba_cons, ↓x_ti, b_ti, ↓x_store, b_st1, b_st2, b_st3, b_st4, ↓x_if, b_ifs, ↓x_for, b_for, ↓x_while, ↓x_expr, b_ex, b_fnr, b_fnn, ↓lvl_exz, ↓lvl_exs, call_bi, call_ty, freeze_d, ↓if_tt, ↓if_ff, if_true, if_false, Bool.not_true, Bool.not_false, key]
   rw [comp_pure Tm.enc (fun x => [(("t" : Str), V.d t.enc), (("found" : Str), V.d (.list (f.map Tm.enc))), (("kid" : Str), V.d k.enc), (("late" : Str), V.d x.enc)]) (fun x => !f.contains x) Tm.enc (insideOf k) (fun x hx => ⟨by rfl, ?_, fun _ => by rfl⟩)]
   · have hsm : smallLen (((insideOf k).filter fun x => !f.contains x).map Tm.enc) = true := small_of (by rw [List.length_map]; omega)
     have ad : binD .Add (.list (f.map Tm.enc)) (.list (((insideOf k).filter fun x => !f.contains x).map Tm.enc)) = some (.list ((addNew f (insideOf k)).map Tm.enc)) := by
       rw [add_list (by simp only [List.length_map]; omega), <- List.map_append]; rfl
     simp -implicitDefEqProofs (disch := first | exact keq rfl | decide | exact Nat.le_trans (by decide) (Nat.le_add_left _ _) | (simp only [List.map_cons, List.map_nil]; decide)) only [↓pureE_ok, ↓pureEs_ok, ↓d_evs, ↓d_tuple, b_as, ↓c_lc1, ↓c_lc2, ↓d_call, ↓p_call, ↓d_meth, ↓p_meth, ↓d_attr, ↓p_attr, ↓d_cmp, ↓p_cmp, ↓d_tcmp, ↓p_tcmp, ↓d_sl1, ↓p_sl1, ↓d_sl2, ↓p_sl2, ↓d_item, ↓p_item, ↓d_bin, ↓p_bin, ↓d_it, ↓p_it, ↓d_lazy, ↓p_lazy, ↓d_ret, ↓p_ret, ↓d_as, ↓p_as, b_call, b_m1, b_m2, b_at, b_v, b_d, b_c1, b_c2, b_c3, b_t1, b_t2, b_t3, ↓c_sl3, b_s, b_i, ↓c_itemC, b_i1, b_i2, b_b1, b_b2, ↓c_neg, ↓c_if, b_if, ↓c_dict, ↓c_list, b_l, ↓c_listm, b_lm, b_tu, ↓c_evs0, b_e1, b_e2, ↓c_bool, ↓c_bo1, ↓c_bo2, b_and, b_or, ↓c_lc, b_lc, b_lc2, b_ld, b_itl, b_itt, b_lz, b_lw, ↓c_itc, ↓c_not, b_not, ↓c_tbool, ↓c_or0, ↓c_and0, ↓c_or, ↓c_and, b_ao, b_aa, ↓c_tcall, b_tb, ↓c_ts0, ↓c_ts, b_ts, ↓exs_then, ↓c_exs0, b_next, b_ret, b_kret, ↓x_alc, ↓x_tt, b_tt, b_nx, ba_nil, ba_cons, ↓x_ti, b_ti, ↓x_store, b_st1, b_st2, b_st3, b_st4, ↓x_if, b_ifs, ↓x_for, b_for, ↓x_while, ↓x_expr, b_ex, b_fnr, b_fnn, ↓lvl_exz, ↓lvl_exs, call_bi, call_ty, freeze_d, ↓if_tt, ↓if_ff, if_true, if_false, Bool.not_true, Bool.not_false, hsm, ad]
     rfl
   · simp -implicitDefEqProofs (disch := first | exact keq rfl | decide | exact Nat.le_trans (by decide) (Nat.le_add_left _ _) | (simp only [List.map_cons, List.map_nil]; decide)) only [↓pureE_ok, ↓pureEs_ok, ↓d_evs, ↓d_tuple, b_as, ↓c_lc1, ↓c_lc2, ↓d_call, ↓p_call, ↓d_meth, ↓p_meth, ↓d_attr, ↓p_attr, ↓d_cmp, ↓p_cmp, ↓d_tcmp, ↓p_tcmp, ↓d_sl1, ↓p_sl1, ↓d_sl2, ↓p_sl2, ↓d_item, ↓p_item, ↓d_bin, ↓p_bin, ↓d_it, ↓p_it, ↓d_lazy, ↓p_lazy, ↓d_ret, ↓p_ret, ↓d_as, ↓p_as, b_call, b_m1, b_m2, b_at, b_v, b_d, b_c1, b_c2, b_c3, b_t1, b_t2, b_t3, ↓c_sl3, b_s, b_i, ↓c_itemC, b_i1, b_i2, b_b1, b_b2, ↓c_neg, ↓c_if, b_if, ↓c_dict, ↓c_list, b_l, ↓c_listm, b_lm, b_tu, ↓c_evs0, b_e1, b_e2, ↓c_bool, ↓c_bo1, ↓c_bo2, b_and, b_or, ↓c_lc, b_lc, b_lc2, b_ld, b_itl, b_itt, b_lz, b_lw, ↓c_itc, ↓c_not, b_not, ↓c_tbool, ↓c_or0, ↓c_and0, ↓c_or, ↓c_and, b_ao, b_aa, ↓c_tcall, b_tb, ↓c_ts0, ↓c_ts, b_ts, ↓exs_then, ↓c_exs0, b_next, b_ret, b_kret, ↓x_alc, ↓x_tt, b_tt, b_nx, ba_nil, ba_cons, ↓x_ti, b_ti, ↓x_store, b_st1, b_st2, b_st3, b_st4, ↓x_if, b_ifs, ↓x_for, b_for, ↓x_while, ↓x_expr, b_ex, b_fnr, b_fnn, ↓lvl_exz, ↓lvl_exs, call_bi, call_ty, freeze_d, ↓if_tt, ↓if_ff, if_true, if_false, Bool.not_true, Bool.not_false, ]
     rw [notin_tm (by have := inside_ht k x hx; omega) (fun y hy => by have := hs1 y hy; omega)]
     cases f.contains x <;> rfl
end Mine.L
end
section
namespace Mine.L
open PySem
theorem for_foldS {α σ : Type} {r : Rec} {sc : Scope} {tgt : Expr} {body : List Stmt} (e : α -> PyData) (L : σ -> Loc) (M : σ -> Sto) (step : σ -> α -> σ) (I : σ -> List α -> Prop) (l : List α) : ∀ s : σ, I s l ->
   (∀ x l, ∀ s, I s (x :: l) -> I (step s x) l /\ ∃ ρ, bindT sc true tgt (e x) (L s) = some ρ /\ r.exs sc body ρ (M s) = some (.next, L (step s x), M (step s x))) ->
   forM r sc tgt body (l.map e) (L s) (M s) = some (.next, L (l.foldl step s), M (l.foldl step s)) /\ I (l.foldl step s) [] := by
 induction l with
 | nil => exact fun s hs _ => ⟨rfl, hs⟩
 | cons x l ih =>
   intro s hs h
   obtain ⟨h1, ρ, h2, h3⟩ := h x l s hs
   exact ⟨(fm_next h2 h3).trans (ih (step s x) h1 h).1, (ih (step s x) h1 h).2⟩
noncomputable def enumT : Nat -> List Tm -> List (Nat × Tm)
 | _, [] => []
 | k, x :: xs => (k, x) :: enumT (k + 1) xs
noncomputable def encN (p : Nat × Tm) : PyData := .tuple [.int p.1, p.2.enc]
theorem enum_map (l : List Tm) : ∀ k : Nat, enumD k (l.map Tm.enc) = (enumT k l).map encN := by
 induction l with
 | nil => exact fun _ => rfl
 | cons x l ih => exact fun k => congrArg (encN (k, x) :: ·) (ih (k + 1))
theorem enum_mem {l : List Tm} : ∀ {k : Nat} {p : Nat × Tm}, p ∈ enumT k l -> p.2 ∈ l := by
 induction l with
 | nil => exact fun h => nomatch h
 | cons x l ih =>
   exact fun h => (List.mem_cons.mp h).elim (fun e => e ▸ List.mem_cons_self ..) fun h => List.mem_cons_of_mem _ (ih h)
theorem enum_len (l : List Tm) : ∀ k : Nat, (enumT k l).length = l.length := by
 induction l with
 | nil => exact fun _ => rfl
 | cons x l ih => exact fun k => congrArg (· + 1) (ih (k + 1))
noncomputable abbrev Pth := List Nat × Tm
noncomputable def Pth.enc (p : Pth) : PyData := .tuple [.tuple (p.1.map fun k => .int (k : Nat)), p.2.enc]
noncomputable def under (k : Nat) (l : List Pth) : List Pth := l.map fun p => (k :: p.1, p.2)
noncomputable def partsP : Tm -> List Pth
 | .leaf l => [([], .leaf l)]
 | .un u s => ([], .un u s) :: under 0 (partsP s)
 | .bin v s t => ([], .bin v s t) :: (under 0 (partsP s) ++ under 1 (partsP t))
theorem under_len {k : Nat} {l : List Pth} : (under k l).length = l.length := List.length_map _
theorem parts_len (t : Tm) : (partsP t).length = t.size := by
 induction t with
 | leaf => rfl
 | un u s ih => exact congrArg (· + 1) (under_len.trans ih)
 | bin v s t h1 h2 => exact congrArg (· + 1) (by rw [List.length_append, under_len, under_len, h1, h2])
theorem parts_all {C : Pth -> Nat -> Prop} (h0 : ∀ t n, C ([], t) (max t.ht n)) (hs : ∀ k p n, C p n -> C (k :: p.1, p.2) (n + 1)) (hm : ∀ p n m, n <= m -> C p n -> C p m) (t : Tm) : ∀ p ∈ partsP t, C p t.ht := by
 have hu : ∀ (k : Nat) (l : List Pth) n, (∀ p ∈ l, C p n) -> ∀ p ∈ under k l, C p (n + 1) := fun k l n h p hp => by
   obtain ⟨q, hq, rfl⟩ := List.mem_map.mp hp
   exact hs k q n (h q hq)
 have h0 : ∀ t, C ([], t) t.ht := fun t => Nat.max_self t.ht ▸ h0 t t.ht
 induction t with
 | leaf l => exact fun p hp => List.mem_singleton.mp hp ▸ h0 _
 | un u s ih => exact fun p hp => (List.mem_cons.mp hp).elim (fun e => e ▸ h0 _) (hu 0 _ _ ih p)
 | bin v s t h1 h2 =>
   exact fun p hp => (List.mem_cons.mp hp).elim (fun e => e ▸ h0 _) fun hp => (List.mem_append.mp hp).elim
     (hu 0 _ _ (fun p hp => hm p _ _ (Nat.le_max_left _ _) (h1 p hp)) p) (hu 1 _ _ (fun p hp => hm p _ _ (Nat.le_max_right _ _) (h2 p hp)) p)
theorem size_le (t : Tm) : t.size + 1 <= 2 ^ (t.ht + 1) := by
 induction t with
 | leaf => exact Nat.le_of_ble_eq_true rfl
 | un u s ih => exact pow_one _ ih
 | bin v s t h1 h2 => exact pow_two _ _ h1 h2
theorem size_small {t : Tm} (h : t.ht <= 3) : t.size <= 15 := by
 have h1 := size_le t
 have h2 : 2 ^ (t.ht + 1) <= 2 ^ 4 := Nat.pow_le_pow_right (by decide) (by omega)
 omega
theorem parts_ht (t : Tm) : ∀ p : Pth, p ∈ partsP t -> p.2.ht <= t.ht := parts_all (C := fun p n => p.2.ht <= n) (fun t n => Nat.le_max_left _ _) (fun _ _ _ h => Nat.le_succ_of_le h) (fun _ _ _ h1 h2 => Nat.le_trans h2 h1) t
noncomputable def deads (n : Nat) : Sto := List.replicate n .dead
theorem deads_add (a b : Nat) : deads a ++ deads b = deads (a + b) := List.replicate_append_replicate
theorem get_mid {μ e : Sto} {m : MO} : (μ ++ m :: e)[μ.length]? = some m := by simp
theorem set_mid {μ e : Sto} {m m' : MO} : (μ ++ m :: e).set μ.length m' = μ ++ m' :: e := by simp
theorem freeze_list {μ e : Sto} {l : List PyData} : freeze μ.length (.obj μ.length) (μ ++ .list l :: e) = (.d (.list l), μ ++ .dead :: e) := by
 show (if μ.length <= μ.length then (match (μ ++ _ :: e)[μ.length]? with | some o => frz _ o _ | none => _) else _) = _
 rw [if_pos (Nat.le_refl _), get_mid]
 exact congrArg (Prod.mk _) set_mid
theorem freeze_dict {μ e : Sto} {l : List (PyData × PyData)} : freeze μ.length (.obj μ.length) (μ ++ .dict l :: e) = (.dict l, μ ++ .dead :: e) := by
 show (if μ.length <= μ.length then (match (μ ++ _ :: e)[μ.length]? with | some o => frz _ o _ | none => _) else _) = _
 rw [if_pos (Nat.le_refl _), get_mid]
 exact congrArg (Prod.mk _) set_mid
theorem pre_ext {μ e : Sto} {l : List PyData} : preM PP (μ ++ .list l :: e) (.obj μ.length) "extend" = true := by
 show (((μ ++ MO.list l :: e)[μ.length]?).bind listO).isSome = true
 rw [get_mid]; rfl
theorem meth_ext {μ e : Sto} {r : Rec} {l ys : List PyData} (h : l.length + ys.length <= 100000) : callMeth PP r (.obj μ.length) "extend" [.d (.list ys)] (μ ++ .list l :: e) = some (.d .none, μ ++ .list (l ++ ys) :: e) := by
 show (((μ ++ MO.list l :: e)[μ.length]?).bind listO).bind _ = _
 rw [get_mid]
 show (if smallLen (l ++ ys) then some (V.d .none, (μ ++ MO.list l :: e).set μ.length (.list (l ++ ys))) else none) = _
 rw [if_pos (small_of (by rw [List.length_append]; exact h)), set_mid]
theorem bind_none {α β : Type} (f : α -> Option β) : (none : Option α).bind f = none := rfl
theorem add_tup {a b : List PyData} (h : a.length + b.length <= 100000) : binD .Add (.tuple a) (.tuple b) = some (.tuple (a ++ b)) := by
 show (if decide _ then _ else _) = _
 rw [decide_eq_true h]; rfl
theorem path_len (t : Tm) : ∀ p : Pth, p ∈ partsP t -> p.1.length <= t.ht := parts_all (C := fun p n => p.1.length <= n) (fun t n => Nat.zero_le _) (fun _ _ _ h => Nat.succ_le_succ h) (fun _ _ _ h1 h2 => Nat.le_trans h2 h1) t
structure PSt where
 f : List Pth
 c : Nat
 o : Option (Nat × Tm)
noncomputable def PSt.L (t : Tm) (i : Nat) (s : PSt) : Loc := (("t" : Str), V.d t.enc) :: (("found" : Str), V.obj i) :: (match s.o with | some k => [(("k" : Str), V.d (.int k.1)), (("kid" : Str), V.d k.2.enc)] | none => [])
noncomputable def PSt.M (μ : Sto) (s : PSt) : Sto := μ ++ .list (s.f.map Pth.enc) :: deads s.c
noncomputable def PSt.step (s : PSt) (k : Nat × Tm) : PSt := ⟨s.f ++ under k.1 (partsP k.2), s.c + k.2.size, some k⟩
theorem parts_fold (t : Tm) : ((enumT 0 t.kids).foldl PSt.step ⟨[([], t)], 0, none⟩).f = partsP t /\ ((enumT 0 t.kids).foldl PSt.step ⟨[([], t)], 0, none⟩).c + 1 = t.size := by
 cases t with
 | leaf l => exact ⟨rfl, rfl⟩
 | un u s => exact ⟨rfl, by simp [enumT, Tm.kids, PSt.step, Tm.size]⟩
 | bin v s t => exact ⟨by simp [enumT, Tm.kids, PSt.step, partsP], by simp [enumT, Tm.kids, PSt.step, Tm.size]⟩
theorem lazy_enum {l : List PyData} : lazyM (.con (.type "enumerate")) [.d (.tuple l)] = some (true, enumD 0 l) := rfl
theorem parts_fn : ∀ (t : Tm) (n : Nat) (μ : Sto), t.ht <= 3 -> (Lvl PP (n + 12 * t.ht + 12)).call (.con (.ref 67)) [.d t.enc] μ = some (.d (.list ((partsP t).map Pth.enc)), μ ++ deads t.size) := by
 intro t
 induction h : t.ht using Nat.strongRecOn generalizing t with
 | _ m ih =>
 subst h
 intro n μ ht
 rw [call_fn (show PP.fn 67 = some ⟨_, _, _⟩ from rfl) rfl]
 simp -implicitDefEqProofs (disch := first | exact keq rfl | decide | exact Nat.le_trans (by decide) (Nat.le_add_left _ _) | (simp only [List.map_cons, List.map_nil]; decide)) only [↓pureE_ok, ↓pureEs_ok, ↓d_evs, ↓d_tuple, b_as, ↓c_lc1, ↓c_lc2, ↓d_call, ↓p_call, ↓d_meth, ↓p_meth, ↓d_attr, ↓p_attr, ↓d_cmp, ↓p_cmp, ↓d_tcmp, ↓p_tcmp, ↓d_sl1, ↓p_sl1, ↓d_sl2, ↓p_sl2, ↓d_item, ↓p_item, ↓d_bin, ↓p_bin, ↓d_it, ↓p_it, ↓d_lazy, ↓p_lazy, ↓d_ret, ↓p_ret, ↓d_as, ↓p_as, b_call, b_m1, b_m2, b_at, b_v, b_d, b_c1, b_c2, b_c3, b_t1, b_t2, b_t3, ↓c_sl3, b_s, b_i, ↓c_itemC, b_i1, b_i2, b_b1, b_b2, ↓c_neg, ↓c_if, b_if, ↓c_dict, ↓c_list, b_l, ↓c_listm, b_lm, b_tu, ↓c_evs0, b_e1, b_e2, ↓c_bool, ↓c_bo1, ↓c_bo2, b_and, b_or, ↓c_lc, b_lc, b_lc2, b_ld, b_itl, b_itt, b_lz, b_lw, ↓c_itc, ↓c_not, b_not, ↓c_tbool, ↓c_or0, ↓c_and0, ↓c_or, ↓c_and, b_ao, b_aa, ↓c_tcall, b_tb, ↓c_ts0, ↓c_ts, b_ts, ↓exs_then, ↓c_exs0, b_next, b_ret, b_kret, ↓x_alc, ↓x_tt, b_tt, b_nx, ba_nil, ba_cons, ↓x_ti, b_ti, ↓x_store, b_st1, b_st2, b_st3, b_st4, ↓x_if, b_ifs, ↓x_for, b_for, ↓x_while, ↓x_expr, b_ex, b_fnr, b_fnn, ↓lvl_exz, ↓lvl_exs, call_bi, call_ty, freeze_d, ↓if_tt, ↓if_ff, if_true, if_false, Bool.not_true, Bool.not_false, len_enc, op_enc, rest_enc, lazy_enum, enum_map]
 have e0 : ([(("t" : Str), V.d t.enc), (("found" : Str), V.obj μ.length)] : Loc) = PSt.L t μ.length ⟨[([], t)], 0, none⟩ := rfl
 have e1 : μ ++ [MO.list [PyData.tuple [PyData.tuple [], t.enc]]] = PSt.M μ ⟨[([], t)], 0, none⟩ := rfl
 rw [e0, e1, (for_foldS encN (PSt.L t μ.length) (PSt.M μ) PSt.step (fun s l => s.f.length + 20 * l.length <= 61 /\ ∀ k ∈ l, k.2 ∈ t.kids) (enumT 0 t.kids) ⟨[([], t)], 0, none⟩
   ⟨by have := kids_le t; rw [enum_len]; simp only [List.length_cons, List.length_nil]; omega, fun _ h => enum_mem h⟩ (fun k l s hs => ?_)).1]
 · obtain ⟨q1, q2⟩ := parts_fold t
   generalize (enumT 0 t.kids).foldl PSt.step ⟨[([], t)], 0, none⟩ = q at q1 q2
   obtain ⟨f, c, o⟩ := q
   simp only at q1 q2
   subst q1
   rw [<- q2]
   simp -implicitDefEqProofs (disch := first | exact keq rfl | decide | exact Nat.le_trans (by decide) (Nat.le_add_left _ _) | (simp only [List.map_cons, List.map_nil]; decide)) only [↓pureE_ok, ↓pureEs_ok, ↓d_evs, ↓d_tuple, b_as, ↓c_lc1, ↓c_lc2, ↓d_call, ↓p_call, ↓d_meth, ↓p_meth, ↓d_attr, ↓p_attr, ↓d_cmp, ↓p_cmp, ↓d_tcmp, ↓p_tcmp, ↓d_sl1, ↓p_sl1, ↓d_sl2, ↓p_sl2, ↓d_item, ↓p_item, ↓d_bin, ↓p_bin, ↓d_it, ↓p_it, ↓d_lazy, ↓p_lazy, ↓d_ret, ↓p_ret, ↓d_as, ↓p_as, b_call, b_m1, b_m2, b_at, b_v, b_d, b_c1, b_c2, b_c3, b_t1, b_t2, b_t3, ↓c_sl3, b_s, b_i, ↓c_itemC, b_i1, b_i2, b_b1, b_b2, ↓c_neg, ↓c_if, b_if, ↓c_dict, ↓c_list, b_l, ↓c_listm, b_lm, b_tu, ↓c_evs0, b_e1, b_e2, ↓c_bool, ↓c_bo1, ↓c_bo2, b_and, b_or, ↓c_lc, b_lc, b_lc2, b_ld, b_itl, b_itt, b_lz, b_lw, ↓c_itc, ↓c_not, b_not, ↓c_tbool, ↓c_or0, ↓c_and0, ↓c_or, ↓c_and, b_ao, b_aa, ↓c_tcall, b_tb, ↓c_ts0, ↓c_ts, b_ts, ↓exs_then, ↓c_exs0, b_next, b_ret, b_kret, ↓x_alc, ↓x_tt, b_tt, b_nx, ba_nil, ba_cons, ↓x_ti, b_ti, ↓x_store, b_st1, b_st2, b_st3, b_st4, ↓x_if, b_ifs, ↓x_for, b_for, ↓x_while, ↓x_expr, b_ex, b_fnr, b_fnn, ↓lvl_exz, ↓lvl_exs, call_bi, call_ty, freeze_d, ↓if_tt, ↓if_ff, if_true, if_false, Bool.not_true, Bool.not_false, PSt.L, PSt.M, freeze_list]
   rfl
 · obtain ⟨f, c, o⟩ := s
   obtain ⟨hs1, hs2⟩ := hs
   have hk := hs2 k (List.mem_cons_self ..)
   have hkt := ht_kid hk
   have hil := size_small (t := k.2) (by omega)
   rw [<- parts_len] at hil
   simp only [List.length_cons] at hs1
   refine ⟨⟨by simp only [PSt.step, under, List.length_append, List.length_map]; omega, fun x hx => hs2 x (List.mem_cons_of_mem _ hx)⟩, ?_⟩
   obtain ⟨d, hd⟩ : ∃ d, t.ht = k.2.ht + 1 + d := ⟨t.ht - k.2.ht - 1, by omega⟩
   refine ⟨(("t" : Str), V.d t.enc) :: (("found" : Str), V.obj μ.length) :: [(("k" : Str), V.d (.int k.1)), (("kid" : Str), V.d k.2.enc)], by cases o <;> rfl, ?_⟩
   have key := ih k.2.ht hkt k.2 rfl (n + 12 * d + 6) (PSt.M μ ⟨f, c, o⟩) (by omega)
   rw [show n + 12 * d + 6 + 12 * k.2.ht + 12 = n + 12 * t.ht + 6 by omega] at key
   have e2 : PSt.M μ ⟨f, c, o⟩ ++ deads k.2.size = μ ++ .list (f.map Pth.enc) :: deads (c + k.2.size) := by simp only [PSt.M, List.append_assoc, List.cons_append, deads_add]
   rw [e2] at key
   unfold PSt.M at key
   simp -implicitDefEqProofs (disch := first | exact keq rfl | decide | exact Nat.le_trans (by decide) (Nat.le_add_left _ _) | (simp only [List.map_cons, List.map_nil]; decide)) only [↓pureE_ok, ↓pureEs_ok, ↓d_evs, ↓d_tuple, b_as, ↓c_lc1, ↓c_lc2, ↓d_call, ↓p_call, ↓d_meth, ↓p_meth, ↓d_attr, ↓p_attr, ↓d_cmp, ↓p_cmp, ↓d_tcmp, ↓p_tcmp, ↓d_sl1, ↓p_sl1, ↓d_sl2, ↓p_sl2, ↓d_item, ↓p_item, ↓d_bin, ↓p_bin, ↓d_it, ↓p_it, ↓d_lazy, ↓p_lazy, ↓d_ret, ↓p_ret, ↓d_as, ↓p_as, b_call, b_m1, b_m2, b_at, b_v, b_d, b_c1, b_c2, b_c3, b_t1, b_t2, b_t3, ↓c_sl3, b_s, b_i, ↓c_itemC, b_i1, b_i2, b_b1, b_b2, ↓c_neg, ↓c_if, b_if, ↓c_dict, ↓c_list, b_l, ↓c_listm, b_lm, b_tu, ↓c_evs0, b_e1, b_e2, ↓c_bool, ↓c_bo1, ↓c_bo2, b_and, b_or, ↓c_lc, b_lc, b_lc2, b_ld, b_itl, b_itt, b_lz, b_lw, ↓c_itc, ↓c_not, b_not, ↓c_tbool, ↓c_or0, ↓c_and0, ↓c_or, ↓c_and, b_ao, b_aa, ↓c_tcall, b_tb, ↓c_ts0, ↓c_ts, b_ts, ↓exs_then, ↓c_exs0, b_next, b_ret, b_kret, ↓x_alc, ↓x_tt, b_tt, b_nx, ba_nil, ba_cons, ↓x_ti, b_ti, ↓x_store, b_st1, b_st2, b_st3, b_st4, ↓x_if, b_ifs, ↓x_for, b_for, ↓x_while, ↓x_expr, b_ex, b_fnr, b_fnn, ↓lvl_exz, ↓lvl_exs, call_bi, call_ty, freeze_d, ↓if_tt, ↓if_ff, if_true, if_false, Bool.not_true, Bool.not_false, key, PSt.M, pre_ext]
   rw [comp_pure Pth.enc (fun x => [(("t" : Str), V.d t.enc), (("found" : Str), V.obj μ.length), (("k" : Str), V.d (.int k.1)), (("kid" : Str), V.d k.2.enc), (("path" : Str), V.d (.tuple (x.1.map fun k => .int (k : Nat)))), (("part" : Str), V.d x.2.enc)]) (fun x => true) (fun x => Pth.enc (k.1 :: x.1, x.2)) (partsP k.2) (fun x hx => ⟨by rfl, rfl, fun _ => ?_⟩)]
   · rw [List.filter_eq_self.mpr (fun _ _ => rfl)]
     have hsm : smallLen ((partsP k.2).map fun x => Pth.enc (k.1 :: x.1, x.2)) = true := small_of (by rw [List.length_map]; omega)
     simp -implicitDefEqProofs (disch := first | exact keq rfl | decide | exact Nat.le_trans (by decide) (Nat.le_add_left _ _) | (simp only [List.map_cons, List.map_nil]; decide)) only [↓pureE_ok, ↓pureEs_ok, ↓d_evs, ↓d_tuple, b_as, ↓c_lc1, ↓c_lc2, ↓d_call, ↓p_call, ↓d_meth, ↓p_meth, ↓d_attr, ↓p_attr, ↓d_cmp, ↓p_cmp, ↓d_tcmp, ↓p_tcmp, ↓d_sl1, ↓p_sl1, ↓d_sl2, ↓p_sl2, ↓d_item, ↓p_item, ↓d_bin, ↓p_bin, ↓d_it, ↓p_it, ↓d_lazy, ↓p_lazy, ↓d_ret, ↓p_ret, ↓d_as, ↓p_as, b_call, b_m1, b_m2, b_at, b_v, b_d, b_c1, b_c2, b_c3, b_t1, b_t2, b_t3, ↓c_sl3, b_s, b_i, ↓c_itemC, b_i1, b_i2, b_b1, b_b2, ↓c_neg, ↓c_if, b_if, ↓c_dict, ↓c_list, b_l, ↓c_listm, b_lm, b_tu, ↓c_evs0, b_e1, b_e2, ↓c_bool, ↓c_bo1, ↓c_bo2, b_and, b_or, ↓c_lc, b_lc, b_lc2, b_ld, b_itl, b_itt, b_lz, b_lw, ↓c_itc, ↓c_not, b_not, ↓c_tbool, ↓c_or0, ↓c_and0, ↓c_or, ↓c_and, b_ao, b_aa, ↓c_tcall, b_tb, ↓c_ts0, ↓c_ts, b_ts, ↓exs_then, ↓c_exs0, b_next, b_ret, b_kret, ↓x_alc, ↓x_tt, b_tt, b_nx, ba_nil, ba_cons, ↓x_ti, b_ti, ↓x_store, b_st1, b_st2, b_st3, b_st4, ↓x_if, b_ifs, ↓x_for, b_for, ↓x_while, ↓x_expr, b_ex, b_fnr, b_fnn, ↓lvl_exz, ↓lvl_exs, call_bi, call_ty, freeze_d, ↓if_tt, ↓if_ff, if_true, if_false, Bool.not_true, Bool.not_false, hsm]
     rw [meth_ext (by simp only [List.length_map]; omega)]
     simp -implicitDefEqProofs (disch := first | exact keq rfl | decide | exact Nat.le_trans (by decide) (Nat.le_add_left _ _) | (simp only [List.map_cons, List.map_nil]; decide)) only [↓pureE_ok, ↓pureEs_ok, ↓d_evs, ↓d_tuple, b_as, ↓c_lc1, ↓c_lc2, ↓d_call, ↓p_call, ↓d_meth, ↓p_meth, ↓d_attr, ↓p_attr, ↓d_cmp, ↓p_cmp, ↓d_tcmp, ↓p_tcmp, ↓d_sl1, ↓p_sl1, ↓d_sl2, ↓p_sl2, ↓d_item, ↓p_item, ↓d_bin, ↓p_bin, ↓d_it, ↓p_it, ↓d_lazy, ↓p_lazy, ↓d_ret, ↓p_ret, ↓d_as, ↓p_as, b_call, b_m1, b_m2, b_at, b_v, b_d, b_c1, b_c2, b_c3, b_t1, b_t2, b_t3, ↓c_sl3, b_s, b_i, ↓c_itemC, b_i1, b_i2, b_b1, b_b2, ↓c_neg, ↓c_if, b_if, ↓c_dict, ↓c_list, b_l, ↓c_listm, b_lm, b_tu, ↓c_evs0, b_e1, b_e2, ↓c_bool, ↓c_bo1, ↓c_bo2, b_and, b_or, ↓c_lc, b_lc, b_lc2, b_ld, b_itl, b_itt, b_lz, b_lw, ↓c_itc, ↓c_not, b_not, ↓c_tbool, ↓c_or0, ↓c_and0, ↓c_or, ↓c_and, b_ao, b_aa, ↓c_tcall, b_tb, ↓c_ts0, ↓c_ts, b_ts, ↓exs_then, ↓c_exs0, b_next, b_ret, b_kret, ↓x_alc, ↓x_tt, b_tt, b_nx, ba_nil, ba_cons, ↓x_ti, b_ti, ↓x_store, b_st1, b_st2, b_st3, b_st4, ↓x_if, b_ifs, ↓x_for, b_for, ↓x_while, ↓x_expr, b_ex, b_fnr, b_fnn, ↓lvl_exz, ↓lvl_exs, call_bi, call_ty, freeze_d, ↓if_tt, ↓if_ff, if_true, if_false, Bool.not_true, Bool.not_false, PSt.step, PSt.L, under, List.map_append, List.map_map, Function.comp_def]
   · have := path_len k.2 x hx
     simp -implicitDefEqProofs (disch := first | exact keq rfl | decide | exact Nat.le_trans (by decide) (Nat.le_add_left _ _) | (simp only [List.map_cons, List.map_nil]; decide)) only [↓pureE_ok, ↓pureEs_ok, ↓d_evs, ↓d_tuple, b_as, ↓c_lc1, ↓c_lc2, ↓d_call, ↓p_call, ↓d_meth, ↓p_meth, ↓d_attr, ↓p_attr, ↓d_cmp, ↓p_cmp, ↓d_tcmp, ↓p_tcmp, ↓d_sl1, ↓p_sl1, ↓d_sl2, ↓p_sl2, ↓d_item, ↓p_item, ↓d_bin, ↓p_bin, ↓d_it, ↓p_it, ↓d_lazy, ↓p_lazy, ↓d_ret, ↓p_ret, ↓d_as, ↓p_as, b_call, b_m1, b_m2, b_at, b_v, b_d, b_c1, b_c2, b_c3, b_t1, b_t2, b_t3, ↓c_sl3, b_s, b_i, ↓c_itemC, b_i1, b_i2, b_b1, b_b2, ↓c_neg, ↓c_if, b_if, ↓c_dict, ↓c_list, b_l, ↓c_listm, b_lm, b_tu, ↓c_evs0, b_e1, b_e2, ↓c_bool, ↓c_bo1, ↓c_bo2, b_and, b_or, ↓c_lc, b_lc, b_lc2, b_ld, b_itl, b_itt, b_lz, b_lw, ↓c_itc, ↓c_not, b_not, ↓c_tbool, ↓c_or0, ↓c_and0, ↓c_or, ↓c_and, b_ao, b_aa, ↓c_tcall, b_tb, ↓c_ts0, ↓c_ts, b_ts, ↓exs_then, ↓c_exs0, b_next, b_ret, b_kret, ↓x_alc, ↓x_tt, b_tt, b_nx, ba_nil, ba_cons, ↓x_ti, b_ti, ↓x_store, b_st1, b_st2, b_st3, b_st4, ↓x_if, b_ifs, ↓x_for, b_for, ↓x_while, ↓x_expr, b_ex, b_fnr, b_fnn, ↓lvl_exz, ↓lvl_exs, call_bi, call_ty, freeze_d, ↓if_tt, ↓if_ff, if_true, if_false, Bool.not_true, Bool.not_false, ]
     rw [add_tup (by simp only [List.length_map, List.length_cons, List.length_nil]; omega)]
     rfl
end Mine.L
end
section
namespace Mine.L
open PySem
noncomputable def isVarN (x : Str) : Bool := x == ("?x" : Str) || x == ("?y" : Str)
theorem isVar_nm (t : Tm) : t.isVar = isVarN t.nm := by
 cases t with
 | leaf l => cases l <;> decide
 | un u s => cases u <;> rfl
 | bin v s t => cases v <;> rfl
theorem under_names {k : Nat} {l : List Pth} : (under k l).map (fun p => p.2.nm) = l.map fun p => p.2.nm := List.map_map
theorem parts_names (t : Tm) : (partsP t).map (fun p => p.2.nm) = namesOf t := by
 induction t with
 | leaf => rfl
 | un u s ih => exact congrArg (u.nm :: ·) (under_names.trans ih)
 | bin v s t h1 h2 => exact congrArg (v.nm :: ·) (List.map_append.trans (by rw [under_names, under_names, h1, h2]))
noncomputable def putS (cs : List (Str × Int)) (x : Str) (v : Int) : List (Str × Int) := if cs.any (fun p => p.1 == x) then cs.map (fun p => if p.1 == x then (p.1, v) else p) else cs ++ [(x, v)]
theorem put_rn (cs : List (Str × Int)) (x : Str) (v : Int) : PyProof.V.putD (.str x) (.int v) (rnD cs) = rnD (putS cs x v) := by
 have hs : ∀ p : Str × Int, Spec.same (.str p.1) (.str x) = (p.1 == x) := fun p => rfl
 unfold PyProof.V.putD putS rnD
 simp only [List.any_map, Function.comp_def, hs]
 split
 · simp only [List.map_map, Function.comp_def, hs]
   apply List.map_congr_left
   intro p _
   split <;> rfl
 · simp only [List.map_append]; rfl
theorem rk_look (rs : List (Str × Int)) (x : Str) : PyData.int (rkOf rs x) = (Spec.lookup (.str x) (rnD rs)).getD (.int 0) := by
 rw [rn_lookup]; unfold rkOf; cases rs.lookup x <;> rfl
theorem rk_put (cs : List (Str × Int)) (x y : Str) (v : Int) : rkOf (putS cs x v) y = if y = x then v else rkOf cs y := by
 have e : (Spec.lookup (.str y) (PyProof.V.putD (.str x) (.int v) (rnD cs))) = if y = x then some (.int v) else Spec.lookup (.str y) (rnD cs) := PyProof.Rows.lookup_putD_str y x (.int v) (rnD cs)
 rw [put_rn] at e
 apply PyData.int.inj
 rw [rk_look, e]
 by_cases h : y = x
 · rw [if_pos h, if_pos h]; rfl
 · rw [if_neg h, if_neg h, rk_look]
theorem keys_put {cs : List (Str × Int)} {x : Str} {v : Int} (h : (cs.map (·.1)).Nodup) : ((putS cs x v).map (·.1)).Nodup /\ ∀ y, y ∈ (putS cs x v).map (·.1) -> y = x \/ y ∈ cs.map (·.1) := by
 unfold putS
 by_cases ha : (cs.any fun p => p.1 == x) = true
 · rw [if_pos ha]
   have : (cs.map (fun p => if p.1 == x then (p.1, v) else p)).map (·.1) = cs.map (·.1) := by
     rw [List.map_map]; apply List.map_congr_left; intro p _; show (if (p.1 == x) = true then (p.1, v) else p).1 = _; cases p.1 == x <;> rfl
   rw [this]; exact ⟨h, fun y hy => .inr hy⟩
 · rw [if_neg ha, List.map_append]
   refine ⟨List.nodup_append.mpr ⟨h, List.nodup_cons.mpr ⟨List.not_mem_nil, List.nodup_nil⟩, fun a ha' b hb e => ?_⟩, fun y hy => (List.mem_append.mp hy).elim .inr fun hy => .inl (List.mem_singleton.mp hy)⟩
   obtain ⟨p, hp, rfl⟩ := List.mem_map.mp ha'
   exact ha (List.any_eq_true.mpr ⟨p, hp, beq_iff_eq.mpr (e.trans (List.mem_singleton.mp hb))⟩)
noncomputable def cstep (cs : List (Str × Int)) (x : Str) : List (Str × Int) := if isVarN x then putS cs x (rkOf cs x + 1) else cs
noncomputable def cntOf (t : Tm) : List (Str × Int) := (namesOf t).foldl cstep []
noncomputable def vcnt (ns : List Str) (x : Str) : Nat := if isVarN x then ns.count x else 0
theorem vcnt_self {a : Str} {ns : List Str} (h : isVarN a = true) : vcnt (a :: ns) a = vcnt ns a + 1 := by
 unfold vcnt; rw [if_pos h, if_pos h, List.count_cons_self]
theorem vcnt_other {a x : Str} {ns : List Str} (h : isVarN a = true -> x ≠ a) : vcnt (a :: ns) x = vcnt ns x := by
 unfold vcnt
 by_cases hv : isVarN x = true
 · rw [if_pos hv, if_pos hv, List.count_cons_of_ne fun e : a = x => h (e ▸ hv) e.symm]
 · rw [if_neg hv, if_neg hv]
theorem cfold_rk (ns : List Str) (x : Str) : ∀ cs : List (Str × Int), rkOf (ns.foldl cstep cs) x = rkOf cs x + vcnt ns x := by
 induction ns with
 | nil => exact fun cs => by unfold vcnt; cases isVarN x <;> exact (Int.add_zero _).symm
 | cons a ns ih =>
   intro cs
   rw [List.foldl_cons, ih, cstep]
   by_cases hv : isVarN a = true
   · rw [if_pos hv, rk_put]
     by_cases h : x = a
     · subst h; rw [if_pos rfl, vcnt_self hv]; omega
     · rw [if_neg h, vcnt_other fun _ => h]
   · rw [if_neg hv, vcnt_other fun h => absurd h hv]
noncomputable def Keys (cs : List (Str × Int)) : Prop := (cs.map (·.1)).Nodup /\ ∀ y ∈ cs.map (·.1), isVarN y = true
theorem keys_step {cs : List (Str × Int)} (h : Keys cs) (x : Str) : Keys (cstep cs x) := by
 unfold cstep
 by_cases hv : isVarN x = true
 · rw [if_pos hv]
   have hp := keys_put (v := rkOf cs x + 1) (x := x) h.1
   exact ⟨hp.1, fun y hy => (hp.2 y hy).elim (fun e => e ▸ hv) (h.2 y)⟩
 · rw [if_neg hv]; exact h
theorem keys_fold (ns : List Str) : ∀ cs : List (Str × Int), Keys cs -> Keys (ns.foldl cstep cs) := by
 induction ns with
 | nil => exact fun _ h => h
 | cons a ns ih => exact fun cs h => ih _ (keys_step h a)
theorem length_le_of_sub {α : Type} [DecidableEq α] {l : List α} : ∀ {m : List α}, l.Nodup -> (∀ a ∈ l, a ∈ m) -> l.length <= m.length := by
 induction l with
 | nil => exact fun _ _ => Nat.zero_le _
 | cons a l ih =>
   intro m h1 h2
   have h1 := List.nodup_cons.mp h1
   have ha := h2 a (List.mem_cons_self ..)
   have q := ih (m := m.erase a) h1.2 fun b hb => (List.mem_erase_of_ne (fun e : b = a => h1.1 (e ▸ hb))).mpr (h2 b (List.mem_cons_of_mem _ hb))
   rw [List.length_erase_of_mem ha] at q
   exact Nat.le_trans (Nat.succ_le_succ q) (Nat.le_of_eq (Nat.sub_add_cancel (List.length_pos_of_mem ha)))
theorem var_two {x : Str} (h : isVarN x = true) : x = "?x" \/ x = "?y" := (Bool.or_eq_true_iff.mp h).elim (fun e => .inl (beq_iff_eq.mp e)) fun e => .inr (beq_iff_eq.mp e)
theorem keys_two {cs : List (Str × Int)} (h : Keys cs) : cs.length <= 2 := by
 have e : cs.length = (cs.map (·.1)).length := (List.length_map _).symm
 rw [e]
 have h2 : (cs.map (·.1)) ⊆ [("?x" : Str), ("?y" : Str)] := fun y hy => (var_two (h.2 y hy)).elim (fun e => e ▸ List.mem_cons_self ..) fun e => e ▸ List.mem_cons_of_mem _ (List.mem_cons_self ..)
 exact length_le_of_sub h.1 fun a ha => h2 ha
theorem sort_rn {cs : List (Str × Int)} (h : Keys cs) : ∃ ks : List Str, sort2 (rnD cs) = some (ks.map .str) /\ ks.length <= 2 /\ ∀ x, x ∈ ks ↔ x ∈ cs.map (·.1) := by
 have hl := keys_two h
 cases cs with
 | nil => exact ⟨[], rfl, Nat.zero_le _, fun _ => Iff.rfl⟩
 | cons p cs =>
 cases cs with
 | nil => exact ⟨[p.1], rfl, Nat.le_succ _, fun _ => Iff.rfl⟩
 | cons q cs =>
 cases cs with
 | cons _ _ => exact absurd hl (Nat.not_le_of_gt (Nat.le_add_left _ _))
 | nil =>
   by_cases hc : q.1.cps.toList < p.1.cps.toList
   · refine ⟨[q.1, p.1], ?_, Nat.le_refl _, fun x => (List.Perm.swap p.1 q.1 []).mem_iff⟩
     show some (if decide (q.1.cps.toList < p.1.cps.toList) = true then _ else _) = _
     rw [if_pos (decide_eq_true hc)]; rfl
   · refine ⟨[p.1, q.1], ?_, Nat.le_refl _, fun x => Iff.rfl⟩
     show some (if decide (q.1.cps.toList < p.1.cps.toList) = true then _ else _) = _
     rw [if_neg fun e => hc (of_decide_eq_true e)]; rfl
theorem isrn_mid {μ e : Sto} {cs : List (Str × Int)} : IsRn (μ ++ .dict (rnD cs) :: e) (.obj μ.length) cs := by
 refine ⟨?_, fun C j h => nomatch h⟩
 show ((μ ++ MO.dict (rnD cs) :: e)[μ.length]?).bind dictO = _
 rw [get_mid]; rfl
theorem ask_str (x : Str) (cs : List (Str × Int)) : askOk (.str x) (rnD cs) = true := by
 unfold askOk; rw [rn_keys]; rfl
theorem store_str {μ e : Sto} {cs : List (Str × Int)} {x : Str} {v : Int} (h : cs.length <= 100000) : storeM (μ ++ .dict (rnD cs) :: e) (.obj μ.length) (.d (.str x)) (.d (.int v)) = some (μ ++ .dict (rnD (putS cs x v)) :: e) := by
 show ((μ ++ MO.dict (rnD cs) :: e)[μ.length]?).bind _ = _
 rw [get_mid]
 show (if askOk (.str x) (rnD cs) && true && decide ((rnD cs).length <= 100000) then some ((μ ++ MO.dict (rnD cs) :: e).set μ.length (.dict (PyProof.V.putD (.str x) (.int v) (rnD cs)))) else none) = _
 rw [if_pos (by rw [ask_str, show (rnD cs).length = cs.length from List.length_map ..]; exact decide_eq_true h), put_rn, set_mid]
structure CSt where
 cs : List (Str × Int)
 o : Option Pth
noncomputable def CSt.L (t : Tm) (i : Nat) (s : CSt) : Loc := (("t" : Str), V.d t.enc) :: (("found" : Str), V.obj i) :: (match s.o with | some p => [(("path" : Str), V.d (.tuple (p.1.map fun k => .int (k : Nat)))), (("part" : Str), V.d p.2.enc)] | none => [])
noncomputable def CSt.M (μ e : Sto) (s : CSt) : Sto := μ ++ .dict (rnD s.cs) :: e
noncomputable def CSt.step (s : CSt) (p : Pth) : CSt := ⟨cstep s.cs p.2.nm, some p⟩
theorem cst_fold (l : List Pth) : ∀ s : CSt, (l.foldl CSt.step s).cs = (l.map fun p => p.2.nm).foldl cstep s.cs := by
 induction l with
 | nil => exact fun _ => rfl
 | cons p l ih => exact fun s => ih (s.step p)
theorem add_int {a b : Int} (h1 : smallI a = true) (h2 : smallI b = true) : binD .Add (.int a) (.int b) = some (.int (a + b)) := by
 show (if _ then _ else _) = _
 rw [h1, h2]; rfl
theorem small_i {a : Int} (h1 : -1000000000 <= a) (h2 : a <= 1000000000) : smallI a = true := by
 exact Bool.and_eq_true_iff.mpr ⟨decide_eq_true (Int.lt_of_lt_of_le (by decide) h1), decide_eq_true (Int.lt_of_le_of_lt h2 (by decide))⟩
theorem counted_fn (t : Tm) (n : Nat) (μ : Sto) (ht : t.ht <= 3) : (Lvl PP (n + 12 * t.ht + 18)).call (.con (.ref 81)) [.d t.enc] μ = some (.dict (rnD (cntOf t)), μ ++ deads (t.size + 1)) := by
 rw [call_fn (show PP.fn 81 = some ⟨_, _, _⟩ from rfl) rfl]
 have key := parts_fn t (n + 3) (μ ++ [.dict []]) ht
 rw [show n + 3 + 12 * t.ht + 12 = n + 12 * t.ht + 15 by omega, show μ ++ [.dict []] ++ deads t.size = μ ++ .dict [] :: deads t.size by simp] at key
 simp -implicitDefEqProofs (disch := first | exact keq rfl | decide | exact Nat.le_trans (by decide) (Nat.le_add_left _ _) | (simp only [List.map_cons, List.map_nil]; decide)) only [↓pureE_ok, ↓pureEs_ok, ↓d_evs, ↓d_tuple, b_as, ↓c_lc1, ↓c_lc2, ↓d_call, ↓p_call, ↓d_meth, ↓p_meth, ↓d_attr, ↓p_attr, ↓d_cmp, ↓p_cmp, ↓d_tcmp, ↓p_tcmp, ↓d_sl1, ↓p_sl1, ↓d_sl2, ↓p_sl2, ↓d_item, ↓p_item, ↓d_bin, ↓p_bin, ↓d_it, ↓p_it, ↓d_lazy, ↓p_lazy, ↓d_ret, ↓p_ret, ↓d_as, ↓p_as, b_call, b_m1, b_m2, b_at, b_v, b_d, b_c1, b_c2, b_c3, b_t1, b_t2, b_t3, ↓c_sl3, b_s, b_i, ↓c_itemC, b_i1, b_i2, b_b1, b_b2, ↓c_neg, ↓c_if, b_if, ↓c_dict, ↓c_list, b_l, ↓c_listm, b_lm, b_tu, ↓c_evs0, b_e1, b_e2, ↓c_bool, ↓c_bo1, ↓c_bo2, b_and, b_or, ↓c_lc, b_lc, b_lc2, b_ld, b_itl, b_itt, b_lz, b_lw, ↓c_itc, ↓c_not, b_not, ↓c_tbool, ↓c_or0, ↓c_and0, ↓c_or, ↓c_and, b_ao, b_aa, ↓c_tcall, b_tb, ↓c_ts0, ↓c_ts, b_ts, ↓exs_then, ↓c_exs0, b_next, b_ret, b_kret, ↓x_alc, ↓x_tt, b_tt, b_nx, ba_nil, ba_cons, ↓x_ti, b_ti, ↓x_store, b_st1, b_st2, b_st3, b_st4, ↓x_if, b_ifs, ↓x_for, b_for, ↓x_while, ↓x_expr, b_ex, b_fnr, b_fnn, ↓lvl_exz, ↓lvl_exs, call_bi, call_ty, freeze_d, ↓if_tt, ↓if_ff, if_true, if_false, Bool.not_true, Bool.not_false, len_enc, op_enc, rest_enc, key]
 have e0 : ([(("t" : Str), V.d t.enc), (("found" : Str), V.obj μ.length)] : Loc) = CSt.L t μ.length ⟨[], none⟩ := rfl
 have e1 : μ ++ .dict [] :: deads t.size = CSt.M μ (deads t.size) ⟨[], none⟩ := rfl
 have hsz := size_small ht
 rw [e0, e1, (for_foldS Pth.enc (CSt.L t μ.length) (CSt.M μ (deads t.size)) CSt.step (fun s l => Keys s.cs /\ ∀ x, 0 <= rkOf s.cs x /\ rkOf s.cs x + l.length <= 100) (partsP t) ⟨[], none⟩
   ⟨⟨List.nodup_nil, fun _ h => nomatch h⟩, fun x => ⟨Int.le_refl 0, by show (0 : Int) + (partsP t).length <= 100; rw [parts_len]; omega⟩⟩ (fun p l s hs => ?_)).1]
 · have q := cst_fold (partsP t) ⟨[], none⟩
   rw [parts_names] at q
   generalize (partsP t).foldl CSt.step ⟨[], none⟩ = z at q
   obtain ⟨cs, o⟩ := z
   simp only at q
   subst q
   simp -implicitDefEqProofs (disch := first | exact keq rfl | decide | exact Nat.le_trans (by decide) (Nat.le_add_left _ _) | (simp only [List.map_cons, List.map_nil]; decide)) only [↓pureE_ok, ↓pureEs_ok, ↓d_evs, ↓d_tuple, b_as, ↓c_lc1, ↓c_lc2, ↓d_call, ↓p_call, ↓d_meth, ↓p_meth, ↓d_attr, ↓p_attr, ↓d_cmp, ↓p_cmp, ↓d_tcmp, ↓p_tcmp, ↓d_sl1, ↓p_sl1, ↓d_sl2, ↓p_sl2, ↓d_item, ↓p_item, ↓d_bin, ↓p_bin, ↓d_it, ↓p_it, ↓d_lazy, ↓p_lazy, ↓d_ret, ↓p_ret, ↓d_as, ↓p_as, b_call, b_m1, b_m2, b_at, b_v, b_d, b_c1, b_c2, b_c3, b_t1, b_t2, b_t3, ↓c_sl3, b_s, b_i, ↓c_itemC, b_i1, b_i2, b_b1, b_b2, ↓c_neg, ↓c_if, b_if, ↓c_dict, ↓c_list, b_l, ↓c_listm, b_lm, b_tu, ↓c_evs0, b_e1, b_e2, ↓c_bool, ↓c_bo1, ↓c_bo2, b_and, b_or, ↓c_lc, b_lc, b_lc2, b_ld, b_itl, b_itt, b_lz, b_lw, ↓c_itc, ↓c_not, b_not, ↓c_tbool, ↓c_or0, ↓c_and0, ↓c_or, ↓c_and, b_ao, b_aa, ↓c_tcall, b_tb, ↓c_ts0, ↓c_ts, b_ts, ↓exs_then, ↓c_exs0, b_next, b_ret, b_kret, ↓x_alc, ↓x_tt, b_tt, b_nx, ba_nil, ba_cons, ↓x_ti, b_ti, ↓x_store, b_st1, b_st2, b_st3, b_st4, ↓x_if, b_ifs, ↓x_for, b_for, ↓x_while, ↓x_expr, b_ex, b_fnr, b_fnn, ↓lvl_exz, ↓lvl_exs, call_bi, call_ty, freeze_d, ↓if_tt, ↓if_ff, if_true, if_false, Bool.not_true, Bool.not_false, CSt.L, CSt.M, freeze_dict]
   rfl
 · obtain ⟨cs, o⟩ := s
   obtain ⟨hk, hr⟩ := hs
   simp only [List.length_cons] at hk hr
   have hr0 := hr p.2.nm
   refine ⟨⟨keys_step hk _, fun x => ?_⟩, ?_⟩
   · have := hr x
     show 0 <= rkOf (cstep cs p.2.nm) x /\ rkOf (cstep cs p.2.nm) x + l.length <= 100
     unfold cstep
     by_cases hv : isVarN p.2.nm = true
     · rw [if_pos hv, rk_put]
       by_cases h : x = p.2.nm
       · rw [if_pos h]; omega
       · rw [if_neg h]; omega
     · rw [if_neg hv]; omega
   refine ⟨(("t" : Str), V.d t.enc) :: (("found" : Str), V.obj μ.length) :: [(("path" : Str), V.d (.tuple (p.1.map fun k => .int (k : Nat)))), (("part" : Str), V.d p.2.enc)], by cases o <;> rfl, ?_⟩
   have key2 := is_var_fn (n + 12 * t.ht + 5) p.2 (CSt.M μ (deads t.size) ⟨cs, o⟩)
   unfold CSt.M at key2
   rw [show n + 12 * t.ht + 5 + 8 = n + 12 * t.ht + 13 by omega] at key2
   simp -implicitDefEqProofs (disch := first | exact keq rfl | decide | exact Nat.le_trans (by decide) (Nat.le_add_left _ _) | (simp only [List.map_cons, List.map_nil]; decide)) only [↓pureE_ok, ↓pureEs_ok, ↓d_evs, ↓d_tuple, b_as, ↓c_lc1, ↓c_lc2, ↓d_call, ↓p_call, ↓d_meth, ↓p_meth, ↓d_attr, ↓p_attr, ↓d_cmp, ↓p_cmp, ↓d_tcmp, ↓p_tcmp, ↓d_sl1, ↓p_sl1, ↓d_sl2, ↓p_sl2, ↓d_item, ↓p_item, ↓d_bin, ↓p_bin, ↓d_it, ↓p_it, ↓d_lazy, ↓p_lazy, ↓d_ret, ↓p_ret, ↓d_as, ↓p_as, b_call, b_m1, b_m2, b_at, b_v, b_d, b_c1, b_c2, b_c3, b_t1, b_t2, b_t3, ↓c_sl3, b_s, b_i, ↓c_itemC, b_i1, b_i2, b_b1, b_b2, ↓c_neg, ↓c_if, b_if, ↓c_dict, ↓c_list, b_l, ↓c_listm, b_lm, b_tu, ↓c_evs0, b_e1, b_e2, ↓c_bool, ↓c_bo1, ↓c_bo2, b_and, b_or, ↓c_lc, b_lc, b_lc2, b_ld, b_itl, b_itt, b_lz, b_lw, ↓c_itc, ↓c_not, b_not, ↓c_tbool, ↓c_or0, ↓c_and0, ↓c_or, ↓c_and, b_ao, b_aa, ↓c_tcall, b_tb, ↓c_ts0, ↓c_ts, b_ts, ↓exs_then, ↓c_exs0, b_next, b_ret, b_kret, ↓x_alc, ↓x_tt, b_tt, b_nx, ba_nil, ba_cons, ↓x_ti, b_ti, ↓x_store, b_st1, b_st2, b_st3, b_st4, ↓x_if, b_ifs, ↓x_for, b_for, ↓x_while, ↓x_expr, b_ex, b_fnr, b_fnn, ↓lvl_exz, ↓lvl_exs, call_bi, call_ty, freeze_d, ↓if_tt, ↓if_ff, if_true, if_false, Bool.not_true, Bool.not_false, key2, op_enc, rn_pre isrn_mid, rn_get isrn_mid, CSt.M, store_str (Nat.le_trans (keys_two hk) (by decide)), add_int (small_i (show -1000000000 <= rkOf cs p.2.nm by omega) (by omega)) (show smallI 1 = true by decide)]
   have hi := isVar_nm p.2
   cases hv : p.2.isVar with
   | true => rw [hv] at hi; simp only [if_true, obind_some, CSt.step, cstep, <- hi]; rfl
   | false => rw [hv] at hi; simp only [CSt.step, cstep, <- hi]; rfl
end Mine.L
end
section
namespace Mine.L
open PySem
noncomputable def kp (p : Tm × Tm) : PyData := .tuple [p.1.enc, p.2.enc]
theorem kp_inj {p q : Tm × Tm} (h : kp p = kp q) : p = q :=
 have e : [p.1.enc, p.2.enc] = [q.1.enc, q.2.enc] := congrArg rowT h
 Prod.ext (enc_inj (List.cons.inj e).1) (enc_inj (List.cons.inj (List.cons.inj e).2).1)
noncomputable def tabD (l : List ((Tm × Tm) × Bool)) : List (PyData × PyData) := l.map fun p => (kp p.1, .bool p.2)
theorem same_kp (p q : Tm × Tm) : Spec.same (kp p) (kp q) = (q == p) := by
 rw [Bool.eq_iff_iff, PyProof.Rows.same_iff, beq_iff_eq]
 exact ⟨fun h => (kp_inj h).symm, fun h => h ▸ rfl⟩
theorem tab_lookup (l : List ((Tm × Tm) × Bool)) (q : Tm × Tm) : Spec.lookup (kp q) (tabD l) = (l.lookup q).map .bool := by
 induction l with
 | nil => rfl
 | cons x l ih =>
   obtain ⟨p, b⟩ := x
   show (if Spec.same (kp p) (kp q) then some (.bool b) else Spec.lookup (kp q) (tabD l)) = _
   rw [ih, List.lookup_cons, same_kp]
   cases (q == p) <;> rfl
theorem tab_keys (l : List ((Tm × Tm) × Bool)) : tupKeys (tabD l) = true := by
 unfold tupKeys tabD
 rw [List.all_map, List.all_eq_true]
 intro p _; rfl
theorem ts_str {n : Nat} {x : Str} (h : PyData.strOk x = true) : tsD n (.str x) = true := by cases n <;> exact h
theorem ts_enc (t : Tm) : ∀ n : Nat, t.ht <= n -> tsD (n + 1) t.enc = true := by
 induction t with
 | leaf l => exact fun n _ => Bool.and_eq_true_iff.mpr ⟨ts_str (nm_ok (.leaf l)), rfl⟩
 | un u s ih =>
   intro n h
   cases n with
   | zero => exact absurd h (Nat.not_succ_le_zero _)
   | succ m => exact Bool.and_eq_true_iff.mpr ⟨ts_str (nm_ok (.un u s)), Bool.and_eq_true_iff.mpr ⟨ih m (Nat.le_of_succ_le_succ h), rfl⟩⟩
 | bin v s t h1 h2 =>
   intro n h
   cases n with
   | zero => exact absurd h (Nat.not_succ_le_zero _)
   | succ m =>
     have h := Nat.max_le.mp (Nat.le_of_succ_le_succ h)
     exact Bool.and_eq_true_iff.mpr ⟨ts_str (nm_ok (.bin v s t)), Bool.and_eq_true_iff.mpr ⟨h1 m h.1, Bool.and_eq_true_iff.mpr ⟨h2 m h.2, rfl⟩⟩⟩
theorem ask_kp {p : Tm × Tm} (h1 : p.1.ht <= 3) (h2 : p.2.ht <= 3) (l : List ((Tm × Tm) × Bool)) : askOk (kp p) (tabD l) = true := by
 have : tsD 6 (kp p) = true := Bool.and_eq_true_iff.mpr ⟨ts_enc _ 4 (Nat.le_succ_of_le h1), Bool.and_eq_true_iff.mpr ⟨ts_enc _ 4 (Nat.le_succ_of_le h2), rfl⟩⟩
 unfold askOk
 rw [this, tab_keys]; rfl
structure Uni (U : List Tm) : Prop where
 kids : ∀ s ∈ U, ∀ k ∈ s.kids, k ∈ U
 ht : ∀ s ∈ U, s.ht <= 2
 len : U.length <= 60
noncomputable def pairsOf (U : List Tm) : List (Tm × Tm) := U.flatMap fun s => U.map fun t => (s, t)
theorem mem_pairs {U : List Tm} {p : Tm × Tm} : p ∈ pairsOf U ↔ p.1 ∈ U /\ p.2 ∈ U := by
 obtain ⟨s, t⟩ := p
 simp [pairsOf]
theorem flat_len {α β : Type} (f : α -> List β) (c : Nat) (h : ∀ a, (f a).length = c) (l : List α) : (l.flatMap f).length = l.length * c := by
 induction l with
 | nil => exact (Nat.zero_mul c).symm
 | cons a l ih => rw [List.flatMap_cons, List.length_append, ih, h, List.length_cons, Nat.succ_mul, Nat.add_comm]
theorem pairs_len {U : List Tm} (h : U.length <= 60) : (pairsOf U).length <= 3600 := by
 unfold pairsOf
 rw [flat_len _ U.length (fun a => List.length_map _)]
 exact Nat.mul_le_mul h h
structure MemoOk (F : Tm -> Tm -> Bool) (U : List Tm) (l : List ((Tm × Tm) × Bool)) : Prop where
 mem : ∀ p ∈ l, p.1.1 ∈ U /\ p.1.2 ∈ U /\ p.2 = F p.1.1 p.1.2
 nodup : (l.map (·.1)).Nodup
theorem MemoOk.len {F : Tm -> Tm -> Bool} {U : List Tm} {l : List ((Tm × Tm) × Bool)} (h : MemoOk F U l) (hU : Uni U) : l.length <= 3600 := by
 have := length_le_of_sub (m := pairsOf U) h.nodup fun a ha => by
   obtain ⟨p, hp, rfl⟩ := List.mem_map.mp ha
   exact mem_pairs.mpr ⟨(h.mem p hp).1, (h.mem p hp).2.1⟩
 rw [List.length_map] at this
 exact Nat.le_trans this (pairs_len hU.len)
theorem lookup_mem' {α β : Type} [BEq α] [LawfulBEq α] {k : α} {v : β} {l : List (α × β)} : l.lookup k = some v -> (k, v) ∈ l := by
 induction l with
 | nil => exact fun h => no_some h
 | cons p l ih =>
   obtain ⟨a, b⟩ := p
   intro h
   rw [List.lookup_cons] at h
   cases hk : (k == a) with
   | true => rw [hk] at h; rw [beq_iff_eq.mp hk, <- Option.some.inj h]; exact List.mem_cons_self ..
   | false => rw [hk] at h; exact List.mem_cons_of_mem _ (ih h)
theorem lookup_none' {α β : Type} [BEq α] [LawfulBEq α] {k : α} {l : List (α × β)} : l.lookup k = none -> k ∉ l.map (·.1) := by
 induction l with
 | nil => exact fun _ h => nomatch h
 | cons p l ih =>
   obtain ⟨a, b⟩ := p
   intro h
   rw [List.lookup_cons] at h
   cases hk : (k == a) with
   | true => rw [hk] at h; exact some_no h
   | false =>
     rw [hk] at h
     exact fun hm => (List.mem_cons.mp hm).elim (fun e => no_ft (hk.symm.trans (beq_iff_eq.mpr e))) (ih h)
theorem MemoOk.hit {F : Tm -> Tm -> Bool} {U : List Tm} {l : List ((Tm × Tm) × Bool)} {q : Tm × Tm} {b : Bool} (h : MemoOk F U l) (hq : l.lookup q = some b) : b = F q.1 q.2 := (h.mem _ (lookup_mem' hq)).2.2
theorem MemoOk.add {F : Tm -> Tm -> Bool} {U : List Tm} {l : List ((Tm × Tm) × Bool)} {q : Tm × Tm} (h : MemoOk F U l) (h1 : q.1 ∈ U) (h2 : q.2 ∈ U) (hq : l.lookup q = none) : MemoOk F U (l ++ [(q, F q.1 q.2)]) :=
 ⟨fun p hp => (List.mem_append.mp hp).elim (h.mem p) fun e => (List.mem_singleton.mp e) ▸ ⟨h1, h2, rfl⟩, by
   rw [List.map_append]
   exact List.nodup_append.mpr ⟨h.nodup, List.nodup_cons.mpr ⟨List.not_mem_nil, List.nodup_nil⟩, fun a ha b hb e => lookup_none' hq (((e.trans (List.mem_singleton.mp hb)) : a = q) ▸ ha)⟩⟩
noncomputable def atsOf (h : Option Nat) (rs : List (Str × Int)) (k : Nat) : List (Str × V) := (kRanks, .dict (rnD rs)) :: (kKnown, .obj k) :: (match h with | none => [] | some i => [(kWeights, .obj i)])
structure OS (F : Tm -> Tm -> Bool) (U : List Tm) (C : Addr) (j k : Nat) (h : Option Nat) (rs : List (Str × Int)) (μ : Sto) : Prop where
 at_ : μ[j]? = some (.attrs (atsOf h rs k))
 cls : C = 117 \/ C = 150
 wt : ∀ i, h = some i -> μ[i]? = some (.dict []) /\ i ≠ k
 ne : j ≠ k
 memo : ∃ l, μ[k]? = some (.dict (tabD l)) /\ MemoOk F U l
noncomputable def Same (k : Nat) (μ μ' : Sto) : Prop := μ.length <= μ'.length /\ ∀ i, i < μ.length -> i ≠ k -> μ'[i]? = μ[i]?
theorem Same.refl {k μ} : Same k μ μ := ⟨Nat.le_refl _, fun _ _ _ => rfl⟩
theorem Same.trans {k μ μ' μ''} (a : Same k μ μ') (b : Same k μ' μ'') : Same k μ μ'' := ⟨Nat.le_trans a.1 b.1, fun i h n => (b.2 i (Nat.lt_of_lt_of_le h a.1) n).trans (a.2 i h n)⟩
theorem Same.get {k μ μ' i m} (a : Same k μ μ') (h : μ[i]? = some m) (n : i ≠ k) : μ'[i]? = some m := (a.2 i (List.getElem?_eq_some_iff.mp h).1 n).trans h
theorem Same.app {k μ e} : Same k μ (μ ++ e) := ⟨by simp, fun i h _ => List.getElem?_append_left h⟩
theorem Same.set {k μ m} : Same k μ (μ.set k m) := ⟨by simp, fun i h n => List.getElem?_set_ne (Ne.symm n)⟩
section
variable {F : Tm -> Tm -> Bool} {U : List Tm} {C : Addr} {j k : Nat} {h : Option Nat} {rs : List (Str × Int)} {μ : Sto} {r : Rec} {vs : List V}
theorem OS.next {μ'} (o : OS F U C j k h rs μ) (s : Same k μ μ') {l} (hm : μ'[k]? = some (.dict (tabD l))) (ml : MemoOk F U l) : OS F U C j k h rs μ' :=
 ⟨s.get o.at_ o.ne, o.cls, fun i e => ⟨s.get (o.wt i e).1 (o.wt i e).2, (o.wt i e).2⟩, o.ne, l, hm, ml⟩
theorem OS.app {e} (o : OS F U C j k h rs μ) : OS F U C j k h rs (μ ++ e) := by
 obtain ⟨l, h1, h2⟩ := o.memo
 exact o.next Same.app (by rw [List.getElem?_append_left (List.getElem?_eq_some_iff.mp h1).1]; exact h1) h2
theorem OS.is_cls (o : OS F U C j k h rs μ) : PP.cls C = true := by rcases o.cls with rfl | rfl <;> rfl
theorem at_ranks (o : OS F U C j k h rs μ) : attrM PP μ (.inst C j) "ranks" = some (.dict (rnD rs)) := by
 show ((μ[j]?).bind attrsO).bind _ = _
 rw [o.at_]
 show (if PP.cls C && _ && _ then _ else _) = _
 rw [o.is_cls]; rfl
theorem at_known (o : OS F U C j k h rs μ) : attrM PP μ (.inst C j) "known" = some (.obj k) := by
 show ((μ[j]?).bind attrsO).bind _ = _
 rw [o.at_]
 show (if PP.cls C && _ && _ then _ else _) = _
 rw [o.is_cls]; rfl
theorem at_weights {i : Nat} (o : OS F U C j k (some i) rs μ) : attrM PP μ (.inst C j) "weights" = some (.obj i) := by
 show ((μ[j]?).bind attrsO).bind _ = _
 rw [o.at_]
 show (if PP.cls C && _ && _ then _ else _) = _
 rw [o.is_cls]; rfl
theorem pre_above (o : OS F U C j k h rs μ) : preM PP μ (.inst C j) "above" = true := by
 show (match (μ[j]?).bind attrsO with | some l => _ | none => _) = _
 rw [o.at_]
 rcases o.cls with rfl | rfl <;> cases h <;> rfl
theorem pre_is_above (o : OS F U C j k h rs μ) : preM PP μ (.inst C j) "is_above" = true := by
 show (match (μ[j]?).bind attrsO with | some l => _ | none => _) = _
 rw [o.at_]
 rcases o.cls with rfl | rfl <;> cases h <;> rfl
theorem pre_first (o : OS F U C j k h rs μ) : preM PP μ (.inst C j) "first_above" = true := by
 show (match (μ[j]?).bind attrsO with | some l => _ | none => _) = _
 rw [o.at_]
 rcases o.cls with rfl | rfl <;> cases h <;> rfl
theorem pre_weight (o : OS F U 150 j k h rs μ) : preM PP μ (.inst 150 j) "weight" = true := by
 show (match (μ[j]?).bind attrsO with | some l => _ | none => _) = _
 rw [o.at_]
 cases h <;> rfl
noncomputable def isAd (C : Addr) : Addr := if C = 117 then 107 else 147
theorem me_above (hC : C = 117 \/ C = 150) : callMeth PP r (.inst C j) "above" vs μ = r.call (.con (.ref 102)) (.inst C j :: vs) μ := by rcases hC with rfl | rfl <;> rfl
theorem me_first (hC : C = 117 \/ C = 150) : callMeth PP r (.inst C j) "first_above" vs μ = r.call (.con (.ref 114)) (.inst C j :: vs) μ := by rcases hC with rfl | rfl <;> rfl
theorem me_is (hC : C = 117 \/ C = 150) : callMeth PP r (.inst C j) "is_above" vs μ = r.call (.con (.ref (isAd C))) (.inst C j :: vs) μ := by rcases hC with rfl | rfl <;> rfl
theorem me_weight : callMeth PP r (.inst 150 j) "weight" vs μ = r.call (.con (.ref 142)) (.inst 150 j :: vs) μ := rfl
noncomputable def Asks (F : Tm -> Tm -> Bool) (U : List Tm) (C : Addr) (j k : Nat) (h : Option Nat) (rs : List (Str × Int)) (f : Addr) (N : Nat) (s t : Tm) : Prop :=
 ∀ μ, OS F U C j k h rs μ -> ∃ μ', OS F U C j k h rs μ' /\ Same k μ μ' /\ (Lvl PP N).call (.con (.ref f)) [.inst C j, .d s.enc, .d t.enc] μ = some (.d (.bool (F s t)), μ')
theorem notin_tab {p : Tm × Tm} {l} (hk : μ[k]? = some (.dict (tabD l))) (h1 : p.1.ht <= 3) (h2 : p.2.ht <= 3) : cmpM μ .NotIn (.d (.tuple [p.1.enc, p.2.enc])) (.obj k) = some (!(l.lookup p).isSome) := by
 show notO (((μ[k]?).bind dictO).bind _) = _
 rw [hk]
 show notO (if askOk (kp p) (tabD l) then some (Spec.lookup (kp p) (tabD l)).isSome else none) = _
 rw [if_pos (ask_kp h1 h2 l), tab_lookup, Option.isSome_map]; rfl
theorem item_tab {p : Tm × Tm} {l} {b : Bool} (hk : μ[k]? = some (.dict (tabD l))) (h1 : p.1.ht <= 3) (h2 : p.2.ht <= 3) (hl : l.lookup p = some b) : itemM μ (.obj k) (.d (.tuple [p.1.enc, p.2.enc])) = some (.d (.bool b)) := by
 show (μ[k]?).bind _ = _
 rw [hk]
 show (if askOk (kp p) (tabD l) then (Spec.lookup (kp p) (tabD l)).map V.d else none) = _
 rw [if_pos (ask_kp h1 h2 l), tab_lookup, hl]; rfl
theorem store_any {p : Tm × Tm} {l} {b : Bool} (hk : μ[k]? = some (.dict (tabD l))) (h1 : p.1.ht <= 3) (h2 : p.2.ht <= 3) (hn : l.length <= 100000) : storeM μ (.obj k) (.d (.tuple [p.1.enc, p.2.enc])) (.d (.bool b)) = some (μ.set k (.dict (PyProof.V.putD (kp p) (.bool b) (tabD l)))) := by
 show (μ[k]?).bind _ = _
 rw [hk]
 exact if_pos (Bool.and_eq_true_iff.mpr ⟨Bool.and_eq_true_iff.mpr ⟨ask_kp (p := p) h1 h2 l, rfl⟩, decide_eq_true ((List.length_map _).symm ▸ hn)⟩)
theorem put_tab {p : Tm × Tm} {l} {b : Bool} (hl : l.lookup p = none) : PyProof.V.putD (kp p) (.bool b) (tabD l) = tabD (l ++ [(p, b)]) := by
 rw [PyProof.Rows.putD_absent (dk := kp p) (D := tabD l) (by rw [tab_lookup, hl]; rfl) (.bool b)]
 unfold tabD
 rw [List.map_append]; rfl
theorem put_hit {p : Tm × Tm} {l} {b : Bool} (hl : l.lookup p = some b) (ml : MemoOk F U l) : PyProof.V.putD (kp p) (.bool (F p.1 p.2)) (tabD l) = tabD l := by
 rw [PyProof.Rows.putD_present (dk := kp p) (D := tabD l) (by rw [tab_lookup, hl]; rfl) (.bool (F p.1 p.2))]
 refine (List.map_congr_left fun q hq => ?_).trans (List.map_id (tabD l))
 obtain ⟨q, hq', rfl⟩ := List.mem_map.mp hq
 show (if Spec.same (kp q.1) (kp p) then (kp q.1, PyData.bool (F p.1 p.2)) else _) = _
 rw [same_kp]
 by_cases hpq : p = q.1
 · rw [if_pos (beq_iff_eq.mpr hpq), hpq, <- (ml.mem q hq').2.2]; rfl
 · rw [if_neg fun e => hpq (beq_iff_eq.mp e)]; rfl
theorem lookup_snoc {α β : Type} [BEq α] [LawfulBEq α] {q : α} {b : β} {l : List (α × β)} : l.lookup q = none -> (l ++ [(q, b)]).lookup q = some b := by
 induction l with
 | nil => exact fun _ => by rw [List.nil_append, List.lookup_cons, beq_self_eq_true]
 | cons p l ih =>
   obtain ⟨a, c⟩ := p
   intro h
   rw [List.cons_append, List.lookup_cons]
   rw [List.lookup_cons] at h
   cases hk : (q == a) with
   | true => rw [hk] at h; exact some_no h
   | false => rw [hk] at h; exact ih h
theorem put_memo {s t : Tm} {l} (hs : s ∈ U) (ht : t ∈ U) (ml : MemoOk F U l) : ∃ l', PyProof.V.putD (kp (s, t)) (.bool (F s t)) (tabD l) = tabD l' /\ MemoOk F U l' /\ l'.lookup (s, t) = some (F s t) := by
 cases hq : l.lookup (s, t) with
 | some b => exact ⟨l, put_hit hq ml, ml, by rw [hq, ml.hit hq]⟩
 | none => exact ⟨_, put_tab hq, ml.add (q := (s, t)) hs ht hq, lookup_snoc hq⟩
theorem above_of (hU : Uni U) {s t : Tm} (hs : s ∈ U) (ht : t ∈ U) {N : Nat} (hIs : ∀ M, N <= M -> Asks F U C j k h rs (isAd C) M s t) : ∀ M, N + 12 <= M -> Asks F U C j k h rs 102 M s t := by
 intro M hM μ o
 obtain ⟨M, rfl⟩ : ∃ m, M = m + 12 := ⟨M - 12, by omega⟩
 obtain ⟨l, hl, ml⟩ := o.memo
 have hsh := hU.ht s hs
 have hth := hU.ht t ht
 rw [call_fn (show PP.fn 102 = some ⟨_, _, _⟩ from rfl) rfl]
 have hs3 : (s, t).1.ht <= 3 := Nat.le_succ_of_le hsh
 have ht3 : (s, t).2.ht <= 3 := Nat.le_succ_of_le hth
 have hni := notin_tab hl hs3 ht3
 cases hq : l.lookup (s, t) with
 | some b =>
   have hi := item_tab hl hs3 ht3 hq
   have hb : b = F s t := ml.hit hq
   refine ⟨μ, o, Same.refl, ?_⟩
   rw [hq, show (!(some b).isSome) = false from rfl] at hni
   simp -implicitDefEqProofs (disch := first | exact keq rfl | decide | exact Nat.le_trans (by decide) (Nat.le_add_left _ _) | (simp only [List.map_cons, List.map_nil]; decide)) only [↓pureE_ok, ↓pureEs_ok, ↓d_evs, ↓d_tuple, b_as, ↓c_lc1, ↓c_lc2, ↓d_call, ↓p_call, ↓d_meth, ↓p_meth, ↓d_attr, ↓p_attr, ↓d_cmp, ↓p_cmp, ↓d_tcmp, ↓p_tcmp, ↓d_sl1, ↓p_sl1, ↓d_sl2, ↓p_sl2, ↓d_item, ↓p_item, ↓d_bin, ↓p_bin, ↓d_it, ↓p_it, ↓d_lazy, ↓p_lazy, ↓d_ret, ↓p_ret, ↓d_as, ↓p_as, b_call, b_m1, b_m2, b_at, b_v, b_d, b_c1, b_c2, b_c3, b_t1, b_t2, b_t3, ↓c_sl3, b_s, b_i, ↓c_itemC, b_i1, b_i2, b_b1, b_b2, ↓c_neg, ↓c_if, b_if, ↓c_dict, ↓c_list, b_l, ↓c_listm, b_lm, b_tu, ↓c_evs0, b_e1, b_e2, ↓c_bool, ↓c_bo1, ↓c_bo2, b_and, b_or, ↓c_lc, b_lc, b_lc2, b_ld, b_itl, b_itt, b_lz, b_lw, ↓c_itc, ↓c_not, b_not, ↓c_tbool, ↓c_or0, ↓c_and0, ↓c_or, ↓c_and, b_ao, b_aa, ↓c_tcall, b_tb, ↓c_ts0, ↓c_ts, b_ts, ↓exs_then, ↓c_exs0, b_next, b_ret, b_kret, ↓x_alc, ↓x_tt, b_tt, b_nx, ba_nil, ba_cons, ↓x_ti, b_ti, ↓x_store, b_st1, b_st2, b_st3, b_st4, ↓x_if, b_ifs, ↓x_for, b_for, ↓x_while, ↓x_expr, b_ex, b_fnr, b_fnn, ↓lvl_exz, ↓lvl_exs, call_bi, call_ty, freeze_d, ↓if_tt, ↓if_ff, if_true, if_false, Bool.not_true, Bool.not_false, at_known o, hni, hi]
   rw [hb]
 | none =>
   rw [hq, show (!(none : Option Bool).isSome) = true from rfl] at hni
   obtain ⟨μ1, o1, s1, e1⟩ := hIs (M + 8) (by omega) μ o
   obtain ⟨l1, hl1, ml1⟩ := o1.memo
   obtain ⟨l2, hp, ml2, hq2⟩ := put_memo hs ht ml1
   have hst := store_any (b := F s t) hl1 hs3 ht3 (Nat.le_trans (ml1.len hU) (by decide))
   rw [hp] at hst
   have hl2 : (μ1.set k (.dict (tabD l2)))[k]? = some (.dict (tabD l2)) := List.getElem?_set_self (List.getElem?_eq_some_iff.mp hl1).1
   have o2 := o1.next Same.set hl2 ml2
   have hi := item_tab hl2 hs3 ht3 hq2
   refine ⟨_, o2, s1.trans Same.set, ?_⟩
   simp -implicitDefEqProofs (disch := first | exact keq rfl | decide | exact Nat.le_trans (by decide) (Nat.le_add_left _ _) | (simp only [List.map_cons, List.map_nil]; decide)) only [↓pureE_ok, ↓pureEs_ok, ↓d_evs, ↓d_tuple, b_as, ↓c_lc1, ↓c_lc2, ↓d_call, ↓p_call, ↓d_meth, ↓p_meth, ↓d_attr, ↓p_attr, ↓d_cmp, ↓p_cmp, ↓d_tcmp, ↓p_tcmp, ↓d_sl1, ↓p_sl1, ↓d_sl2, ↓p_sl2, ↓d_item, ↓p_item, ↓d_bin, ↓p_bin, ↓d_it, ↓p_it, ↓d_lazy, ↓p_lazy, ↓d_ret, ↓p_ret, ↓d_as, ↓p_as, b_call, b_m1, b_m2, b_at, b_v, b_d, b_c1, b_c2, b_c3, b_t1, b_t2, b_t3, ↓c_sl3, b_s, b_i, ↓c_itemC, b_i1, b_i2, b_b1, b_b2, ↓c_neg, ↓c_if, b_if, ↓c_dict, ↓c_list, b_l, ↓c_listm, b_lm, b_tu, ↓c_evs0, b_e1, b_e2, ↓c_bool, ↓c_bo1, ↓c_bo2, b_and, b_or, ↓c_lc, b_lc, b_lc2, b_ld, b_itl, b_itt, b_lz, b_lw, ↓c_itc, ↓c_not, b_not, ↓c_tbool, ↓c_or0, ↓c_and0, ↓c_or, ↓c_and, b_ao, b_aa, ↓c_tcall, b_tb, ↓c_ts0, ↓c_ts, b_ts, ↓exs_then, ↓c_exs0, b_next, b_ret, b_kret, ↓x_alc, ↓x_tt, b_tt, b_nx, ba_nil, ba_cons, ↓x_ti, b_ti, ↓x_store, b_st1, b_st2, b_st3, b_st4, ↓x_if, b_ifs, ↓x_for, b_for, ↓x_while, ↓x_expr, b_ex, b_fnr, b_fnn, ↓lvl_exz, ↓lvl_exs, call_bi, call_ty, freeze_d, ↓if_tt, ↓if_ff, if_true, if_false, Bool.not_true, Bool.not_false, at_known o, hni, pre_is_above o, me_is o.cls, e1, at_known o1, hst, at_known o2, hi]
end
end Mine.L
end
section
namespace Mine.L
open PySem
theorem for_find {α : Type} {r : Rec} {sc : Scope} {tgt : Expr} {body : List Stmt} {μ : Sto} (e : α -> PyData) (L : Option α -> Loc) (c : α -> Bool) (Q : α -> V -> Sto -> Prop) (l : List α) : ∀ (o : Option α) (Z : FX),
   forM r sc tgt body (l.map e) (L o) μ = Z ->
   (∀ x ∈ l, ∀ o, ∃ ρ, bindT sc true tgt (e x) (L o) = some ρ /\ (c x = false -> r.exs sc body ρ μ = some (.next, L (some x), μ)) /\ (c x = true -> ∃ v ρ' μ', r.exs sc body ρ μ = some (.ret v, ρ', μ') /\ Q x v μ')) ->
   (∃ x, l.find? c = some x /\ x ∈ l /\ ∃ v ρ' μ', Z = some (.ret v, ρ', μ') /\ Q x v μ') \/ (l.find? c = none /\ ∃ o', Z = some (.next, L o', μ)) := by
 induction l with
 | nil => exact fun o Z hZ _ => .inr ⟨rfl, o, hZ.symm⟩
 | cons x l ih =>
   intro o Z hZ h
   obtain ⟨ρ, h1, h2, h3⟩ := h x (List.mem_cons_self ..) o
   rw [List.find?_cons]
   cases hc : c x with
   | true =>
     obtain ⟨v, ρ', μ', hv, q⟩ := h3 hc
     exact .inl ⟨x, rfl, List.mem_cons_self .., v, ρ', μ', hZ.symm.trans (fm_ret h1 hv), q⟩
   | false => exact (ih (some x) Z ((fm_next h1 (h2 hc)).symm.trans hZ) fun y hy => h y (List.mem_cons_of_mem _ hy)).imp (fun ⟨y, q⟩ => ⟨y, q.1, List.mem_cons_of_mem _ q.2.1, q.2.2⟩) id
theorem zip_map (l : List Tm) : ∀ m : List Tm, zipD (l.map Tm.enc) (m.map Tm.enc) = (l.zip m).map kp := by
 induction l with
 | nil => exact fun _ => rfl
 | cons a l ih =>
   intro m
   cases m with
   | nil => rfl
   | cons b m => exact congrArg (kp (a, b) :: ·) (ih m)
theorem lazy_zip {a b : List PyData} : lazyM (.con (.type "zip")) [.d (.tuple a), .d (.tuple b)] = some (true, zipD a b) := rfl
noncomputable def unlike (p : Tm × Tm) : Bool := !decide (p.1 = p.2)
theorem fst_find (f : Tm -> Tm -> Bool) (l : List Tm) : ∀ m : List Tm, fstD f l m = match (l.zip m).find? unlike with | some p => f p.1 p.2 | none => false := by
 induction l with
 | nil => exact fun _ => rfl
 | cons a l ih =>
   intro m
   cases m with
   | nil => rfl
   | cons b m =>
     rw [fstD_cons, List.zip_cons_cons, List.find?_cons]
     by_cases h : a = b
     · rw [if_pos h, show unlike (a, b) = false from congrArg not (decide_eq_true h)]; exact ih m
     · rw [if_neg h, show unlike (a, b) = true from congrArg not (decide_eq_false h)]
theorem zip_mem {α β : Type} {l : List α} : ∀ {m : List β} {p : α × β}, p ∈ l.zip m -> p.1 ∈ l /\ p.2 ∈ m := by
 induction l with
 | nil => exact fun h => nomatch h
 | cons a l ih =>
   intro m p h
   cases m with
   | nil => cases h
   | cons b m => exact (List.mem_cons.mp h).elim (fun e => e ▸ ⟨List.mem_cons_self .., List.mem_cons_self ..⟩) fun h => ⟨List.mem_cons_of_mem _ (ih h).1, List.mem_cons_of_mem _ (ih h).2⟩
theorem ne_nil {μ : Sto} {l : List Tm} (h : ∀ x ∈ l, x.ht <= 50) : cmpM μ .NotEq (.d (.list (l.map Tm.enc))) (.d (.list [])) = some (!l.isEmpty) :=
 cmp_ne ((list_okd h).mono (by decide)) ((okd_list (l := []) (k := 0) fun _ h => (List.not_mem_nil h).elim).mono (by decide)) (by cases l <;> simp)
section
variable {F : Tm -> Tm -> Bool} {U : List Tm} {C : Addr} {j k : Nat} {h : Option Nat} {rs : List (Str × Int)} {μ : Sto} {r : Rec} {vs : List V}
theorem first_fn (hU : Uni U) {s t : Tm} (hs : s ∈ U) (ht : t ∈ U) {N : Nat} (hA : ∀ a ∈ s.kids, ∀ b ∈ t.kids, ∀ M, N <= M -> Asks F U C j k h rs 102 M a b) (M : Nat) (hM : N + 20 <= M) (o : OS F U C j k h rs μ) :
   ∃ μ', OS F U C j k h rs μ' /\ Same k μ μ' /\ (Lvl PP M).call (.con (.ref 114)) [.inst C j, .d (.tuple (s.kids.map Tm.enc)), .d (.tuple (t.kids.map Tm.enc))] μ = some (.d (.bool (fstD F s.kids t.kids)), μ') := by
 obtain ⟨M, rfl⟩ : ∃ m, M = m + 20 := ⟨M - 20, by omega⟩
 rw [call_fn (show PP.fn 114 = some ⟨_, _, _⟩ from rfl) rfl]
 simp -implicitDefEqProofs (disch := first | exact keq rfl | decide | exact Nat.le_trans (by decide) (Nat.le_add_left _ _) | (simp only [List.map_cons, List.map_nil]; decide)) only [↓pureE_ok, ↓pureEs_ok, ↓d_evs, ↓d_tuple, b_as, ↓c_lc1, ↓c_lc2, ↓d_call, ↓p_call, ↓d_meth, ↓p_meth, ↓d_attr, ↓p_attr, ↓d_cmp, ↓p_cmp, ↓d_tcmp, ↓p_tcmp, ↓d_sl1, ↓p_sl1, ↓d_sl2, ↓p_sl2, ↓d_item, ↓p_item, ↓d_bin, ↓p_bin, ↓d_it, ↓p_it, ↓d_lazy, ↓p_lazy, ↓d_ret, ↓p_ret, ↓d_as, ↓p_as, b_call, b_m1, b_m2, b_at, b_v, b_d, b_c1, b_c2, b_c3, b_t1, b_t2, b_t3, ↓c_sl3, b_s, b_i, ↓c_itemC, b_i1, b_i2, b_b1, b_b2, ↓c_neg, ↓c_if, b_if, ↓c_dict, ↓c_list, b_l, ↓c_listm, b_lm, b_tu, ↓c_evs0, b_e1, b_e2, ↓c_bool, ↓c_bo1, ↓c_bo2, b_and, b_or, ↓c_lc, b_lc, b_lc2, b_ld, b_itl, b_itt, b_lz, b_lw, ↓c_itc, ↓c_not, b_not, ↓c_tbool, ↓c_or0, ↓c_and0, ↓c_or, ↓c_and, b_ao, b_aa, ↓c_tcall, b_tb, ↓c_ts0, ↓c_ts, b_ts, ↓exs_then, ↓c_exs0, b_next, b_ret, b_kret, ↓x_alc, ↓x_tt, b_tt, b_nx, ba_nil, ba_cons, ↓x_ti, b_ti, ↓x_store, b_st1, b_st2, b_st3, b_st4, ↓x_if, b_ifs, ↓x_for, b_for, ↓x_while, ↓x_expr, b_ex, b_fnr, b_fnn, ↓lvl_exz, ↓lvl_exs, call_bi, call_ty, freeze_d, ↓if_tt, ↓if_ff, if_true, if_false, Bool.not_true, Bool.not_false, lazy_zip, zip_map]
 let L : Option (Tm × Tm) -> Loc := fun o => (("self" : Str), V.inst C j) :: (("some" : Str), V.d (.tuple (s.kids.map Tm.enc))) :: (("others" : Str), V.d (.tuple (t.kids.map Tm.enc))) :: (match o with | some p => [(("kid" : Str), V.d p.1.enc), (("late" : Str), V.d p.2.enc)] | none => [])
 have hk : ∀ p ∈ s.kids.zip t.kids, p.1.ht <= 50 /\ p.2.ht <= 50 := fun p hp => ⟨Nat.le_trans (hU.ht _ (hU.kids _ hs _ (zip_mem hp).1)) (by decide), Nat.le_trans (hU.ht _ (hU.kids _ ht _ (zip_mem hp).2)) (by decide)⟩
 rw [fst_find]
 generalize hF : forM _ _ _ _ _ _ _ = Z
 have hz := for_find kp L unlike (fun p v μ' => v = .d (.bool (F p.1 p.2)) /\ OS F U C j k h rs μ' /\ Same k μ μ') _ none Z hF ?_
 · rcases hz with ⟨p, hf, _, v, ρ', μ', rfl, rfl, o', s'⟩ | ⟨hf, o', rfl⟩
   · exact ⟨μ', o', s', by rw [hf]; rfl⟩
   · exact ⟨μ, o, Same.refl, by rw [hf]; rfl⟩
 · intro p hp q
   obtain ⟨h1, h2⟩ := hk p hp
   refine ⟨L (some p), by cases q <;> rfl, fun hc => ?_, fun hc => ?_⟩
   · have hne := cmp_tm_ne (μ := μ) h1 h2
     have hc' : (!decide (p.1 = p.2)) = false := hc
     rw [hc'] at hne
     simp -implicitDefEqProofs (disch := first | exact keq rfl | decide | exact Nat.le_trans (by decide) (Nat.le_add_left _ _) | (simp only [List.map_cons, List.map_nil]; decide)) only [↓pureE_ok, ↓pureEs_ok, ↓d_evs, ↓d_tuple, b_as, ↓c_lc1, ↓c_lc2, ↓d_call, ↓p_call, ↓d_meth, ↓p_meth, ↓d_attr, ↓p_attr, ↓d_cmp, ↓p_cmp, ↓d_tcmp, ↓p_tcmp, ↓d_sl1, ↓p_sl1, ↓d_sl2, ↓p_sl2, ↓d_item, ↓p_item, ↓d_bin, ↓p_bin, ↓d_it, ↓p_it, ↓d_lazy, ↓p_lazy, ↓d_ret, ↓p_ret, ↓d_as, ↓p_as, b_call, b_m1, b_m2, b_at, b_v, b_d, b_c1, b_c2, b_c3, b_t1, b_t2, b_t3, ↓c_sl3, b_s, b_i, ↓c_itemC, b_i1, b_i2, b_b1, b_b2, ↓c_neg, ↓c_if, b_if, ↓c_dict, ↓c_list, b_l, ↓c_listm, b_lm, b_tu, ↓c_evs0, b_e1, b_e2, ↓c_bool, ↓c_bo1, ↓c_bo2, b_and, b_or, ↓c_lc, b_lc, b_lc2, b_ld, b_itl, b_itt, b_lz, b_lw, ↓c_itc, ↓c_not, b_not, ↓c_tbool, ↓c_or0, ↓c_and0, ↓c_or, ↓c_and, b_ao, b_aa, ↓c_tcall, b_tb, ↓c_ts0, ↓c_ts, b_ts, ↓exs_then, ↓c_exs0, b_next, b_ret, b_kret, ↓x_alc, ↓x_tt, b_tt, b_nx, ba_nil, ba_cons, ↓x_ti, b_ti, ↓x_store, b_st1, b_st2, b_st3, b_st4, ↓x_if, b_ifs, ↓x_for, b_for, ↓x_while, ↓x_expr, b_ex, b_fnr, b_fnn, ↓lvl_exz, ↓lvl_exs, call_bi, call_ty, freeze_d, ↓if_tt, ↓if_ff, if_true, if_false, Bool.not_true, Bool.not_false, L, hne]
   · have hne := cmp_tm_ne (μ := μ) h1 h2
     have hc' : (!decide (p.1 = p.2)) = true := hc
     rw [hc'] at hne
     obtain ⟨μ', o', s', e'⟩ := hA p.1 (zip_mem hp).1 p.2 (zip_mem hp).2 (M + 15) (by omega) μ o
     refine ⟨_, L (some p), μ', ?_, rfl, o', s'⟩
     simp -implicitDefEqProofs (disch := first | exact keq rfl | decide | exact Nat.le_trans (by decide) (Nat.le_add_left _ _) | (simp only [List.map_cons, List.map_nil]; decide)) only [↓pureE_ok, ↓pureEs_ok, ↓d_evs, ↓d_tuple, b_as, ↓c_lc1, ↓c_lc2, ↓d_call, ↓p_call, ↓d_meth, ↓p_meth, ↓d_attr, ↓p_attr, ↓d_cmp, ↓p_cmp, ↓d_tcmp, ↓p_tcmp, ↓d_sl1, ↓p_sl1, ↓d_sl2, ↓p_sl2, ↓d_item, ↓p_item, ↓d_bin, ↓p_bin, ↓d_it, ↓p_it, ↓d_lazy, ↓p_lazy, ↓d_ret, ↓p_ret, ↓d_as, ↓p_as, b_call, b_m1, b_m2, b_at, b_v, b_d, b_c1, b_c2, b_c3, b_t1, b_t2, b_t3, ↓c_sl3, b_s, b_i, ↓c_itemC, b_i1, b_i2, b_b1, b_b2, ↓c_neg, ↓c_if, b_if, ↓c_dict, ↓c_list, b_l, ↓c_listm, b_lm, b_tu, ↓c_evs0, b_e1, b_e2, ↓c_bool, ↓c_bo1, ↓c_bo2, b_and, b_or, ↓c_lc, b_lc, b_lc2, b_ld, b_itl, b_itt, b_lz, b_lw, ↓c_itc, ↓c_not, b_not, ↓c_tbool, ↓c_or0, ↓c_and0, ↓c_or, ↓c_and, b_ao, b_aa, ↓c_tcall, b_tb, ↓c_ts0, ↓c_ts, b_ts, ↓exs_then, ↓c_exs0, b_next, b_ret, b_kret, ↓x_alc, ↓x_tt, b_tt, b_nx, ba_nil, ba_cons, ↓x_ti, b_ti, ↓x_store, b_st1, b_st2, b_st3, b_st4, ↓x_if, b_ifs, ↓x_for, b_for, ↓x_while, ↓x_expr, b_ex, b_fnr, b_fnn, ↓lvl_exz, ↓lvl_exs, call_bi, call_ty, freeze_d, ↓if_tt, ↓if_ff, if_true, if_false, Bool.not_true, Bool.not_false, L, hne, pre_above o, me_above o.cls, e']
end
end Mine.L
end
section
namespace Mine.L
open PySem
noncomputable abbrev HK := Int × Str × Nat
noncomputable def hdK (rs : List (Str × Int)) (t : Tm) : HK := (rkOf rs t.nm, t.nm, t.kids.length)
noncomputable def gtK (a b : HK) : Bool := if b.1 = a.1 then (if b.2.1 = a.2.1 then decide (b.2.2 < a.2.2) else decide (b.2.1.cps.toList < a.2.1.cps.toList)) else decide (b.1 < a.1)
theorem gtK_irr (a : HK) : gtK a a = false := (if_pos rfl).trans ((if_pos rfl).trans (decide_eq_false (Nat.lt_irrefl _)))
theorem str_ne {x y : Str} (h : x ≠ y) : x.cps.toList ≠ y.cps.toList := fun e => h (by cases x; cases y; exact congrArg Str.mk (Array.toList_inj.mp e))
theorem lx_tr {A B : Type} [DecidableEq A] {f : A -> A -> Bool} {g : B -> B -> Bool} (hi : ∀ a, f a a = false) (hf : ∀ a b c, f a b = true -> f b c = true -> f a c = true) (hg : ∀ a b c, g a b = true -> g b c = true -> g a c = true)
   (a b c : A × B) (h1 : (if b.1 = a.1 then g a.2 b.2 else f a.1 b.1) = true) (h2 : (if c.1 = b.1 then g b.2 c.2 else f b.1 c.1) = true) : (if c.1 = a.1 then g a.2 c.2 else f a.1 c.1) = true := by
 by_cases e1 : b.1 = a.1
 · rw [if_pos e1] at h1
   rw [e1] at h2
   by_cases e2 : c.1 = a.1
   · rw [if_pos e2] at h2 ⊢; exact hg _ _ _ h1 h2
   · rw [if_neg e2] at h2 ⊢; exact h2
 · rw [if_neg e1] at h1
   by_cases e2 : c.1 = b.1
   · rw [e2, if_neg e1]; exact h1
   · rw [if_neg e2] at h2
     have h3 := hf _ _ _ h1 h2
     rw [if_neg fun e => by rw [e, hi] at h3; exact no_ft h3]; exact h3
theorem gtK_tr : ∀ a b c : HK, gtK a b = true -> gtK b c = true -> gtK a c = true :=
 lx_tr (f := fun a b : Int => decide (b < a)) (g := fun a b : Str × Nat => if b.1 = a.1 then decide (b.2 < a.2) else decide (b.1.cps.toList < a.1.cps.toList)) (fun a => decide_eq_false (Int.lt_irrefl a))
   (fun _ _ _ h1 h2 => decide_eq_true (Int.lt_trans (of_decide_eq_true h2) (of_decide_eq_true h1)))
   (lx_tr (f := fun a b : Str => decide (b.cps.toList < a.cps.toList)) (g := fun a b : Nat => decide (b < a)) (fun a => decide_eq_false (List.lt_irrefl _))
     (fun _ _ _ h1 h2 => decide_eq_true (List.lt_trans (of_decide_eq_true h2) (of_decide_eq_true h1)))
     (fun _ _ _ h1 h2 => decide_eq_true (Nat.lt_trans (of_decide_eq_true h2) (of_decide_eq_true h1))))
theorem lexD_hd (rs : List (Str × Int)) (s t : Tm) : lexD (headD rs s) (headD rs t) = some (gtK (hdK rs t) (hdK rs s)) := by
 have e1 : ∀ a b : Int, PyData.eqv (.int a) (.int b) = decide (a = b) := fun a b => eqv_b rfl rfl (by rw [decide_eq_true_iff]; exact ⟨fun h => h ▸ rfl, PyData.int.inj⟩)
 have e2 : PyData.eqv (.str s.nm) (.str t.nm) = decide (s.nm = t.nm) := eqv_b (nm_ok s) (nm_ok t) (by rw [decide_eq_true_iff]; exact ⟨fun h => h ▸ rfl, PyData.str.inj⟩)
 show (if PyData.eqv (.int (rkOf rs s.nm)) (.int (rkOf rs t.nm)) = true then (if PyData.eqv (.str s.nm) (.str t.nm) = true then (if PyData.eqv (.int s.kids.length) (.int t.kids.length) = true then some false else some (decide ((s.kids.length : Int) < t.kids.length))) else some (decide (s.nm.cps.toList < t.nm.cps.toList)))
   else some (decide (rkOf rs s.nm < rkOf rs t.nm))) = some (if rkOf rs s.nm = rkOf rs t.nm then (if s.nm = t.nm then decide (s.kids.length < t.kids.length) else decide (s.nm.cps.toList < t.nm.cps.toList)) else decide (rkOf rs s.nm < rkOf rs t.nm))
 rw [e1, e2, e1]
 by_cases a : rkOf rs s.nm = rkOf rs t.nm
 · rw [if_pos (decide_eq_true a), if_pos a]
   by_cases b : s.nm = t.nm
   · rw [if_pos (decide_eq_true b), if_pos b]
     by_cases c : s.kids.length = t.kids.length
     · rw [c, if_pos (decide_eq_true rfl), decide_eq_false (Nat.lt_irrefl _)]
     · rw [if_neg fun e => c (Int.ofNat_inj.mp (of_decide_eq_true e))]
       exact congrArg some (Bool.eq_iff_iff.mpr (decide_eq_true_iff.trans (Int.ofNat_lt.trans decide_eq_true_iff.symm)))
   · rw [if_neg fun e => b (of_decide_eq_true e), if_neg b]
 · rw [if_neg fun e => a (of_decide_eq_true e), if_neg a]
theorem head_okd (rs : List (Str × Int)) (t : Tm) : ∀ x ∈ headD rs t, okd x 0 := by
 intro x hx
 rcases List.mem_cons.mp hx with rfl | hx
 · exact okd_int _ _
 rcases List.mem_cons.mp hx with rfl | hx
 · exact okd_str (nm_ok t) _
 · exact List.mem_singleton.mp hx ▸ okd_int _ _
theorem hd_eq {rs : List (Str × Int)} {s t : Tm} : headD rs s = headD rs t ↔ hdK rs s = hdK rs t :=
 ⟨fun h => Prod.ext (PyData.int.inj (List.cons.inj h).1) (Prod.ext (PyData.str.inj (List.cons.inj (List.cons.inj h).2).1) (Int.ofNat.inj (PyData.int.inj (List.cons.inj (List.cons.inj (List.cons.inj h).2).2).1))),
   fun h => congrArg (fun k : HK => [PyData.int k.1, .str k.2.1, .int k.2.2]) h⟩
section
variable {μ : Sto} {rs : List (Str × Int)} {s t : Tm}
theorem tup_okd (rs : List (Str × Int)) (t : Tm) : okd (.tuple (headD rs t)) 60 := (okd_tuple (head_okd rs t)).mono (by decide)
theorem lst_okd (rs : List (Str × Int)) (t : Tm) : okd (.list (headD rs t)) 60 := (okd_list (head_okd rs t)).mono (by decide)
theorem less_tup : lessD (.tuple (headD rs s)) (.tuple (headD rs t)) = some (gtK (hdK rs t) (hdK rs s)) := by
 show (if okD (.tuple (headD rs s)) && okD (.tuple (headD rs t)) then lexD (headD rs s) (headD rs t) else none) = _
 rw [(tup_okd rs s).okD, (tup_okd rs t).okD, <- lexD_hd]; rfl
theorem less_lst : lessD (.list (headD rs s)) (.list (headD rs t)) = some (gtK (hdK rs t) (hdK rs s)) := by
 show (if okD (.list (headD rs s)) && okD (.list (headD rs t)) then lexD (headD rs s) (headD rs t) else none) = _
 rw [(lst_okd rs s).okD, (lst_okd rs t).okD, <- lexD_hd]; rfl
theorem gt_tup : cmpM μ .Gt (.d (.tuple (headD rs s))) (.d (.tuple (headD rs t))) = some (gtK (hdK rs s) (hdK rs t)) := less_tup
theorem lt_tup : cmpM μ .Lt (.d (.tuple (headD rs s))) (.d (.tuple (headD rs t))) = some (gtK (hdK rs t) (hdK rs s)) := less_tup
theorem gt_lst : cmpM μ .Gt (.d (.list (headD rs s))) (.d (.list (headD rs t))) = some (gtK (hdK rs s) (hdK rs t)) := less_lst
theorem lt_lst : cmpM μ .Lt (.d (.list (headD rs s))) (.d (.list (headD rs t))) = some (gtK (hdK rs t) (hdK rs s)) := less_lst
theorem eq_tup : cmpM μ .Eq (.d (.tuple (headD rs s))) (.d (.tuple (headD rs t))) = some (decide (hdK rs s = hdK rs t)) :=
 cmp_eq (tup_okd rs s) (tup_okd rs t) (decide_eq_true_iff.trans (hd_eq.symm.trans ⟨fun h => h ▸ rfl, PyData.tuple.inj⟩))
theorem ne_lst : cmpM μ .NotEq (.d (.list (headD rs s))) (.d (.list (headD rs t))) = some (!decide (hdK rs s = hdK rs t)) :=
 cmp_ne (lst_okd rs s) (lst_okd rs t) (decide_eq_true_iff.trans (hd_eq.symm.trans ⟨fun h => h ▸ rfl, PyData.list.inj⟩))
theorem isrn_dict : IsRn μ (.dict (rnD rs)) rs := ⟨rfl, fun C j h => nomatch h⟩
end
theorem comp_invZ {α : Type} {r : Rec} {fm : Fm} {elt tgt : Expr} {ifs : List Expr} {I : Sto -> Prop} (e : α -> PyData) (ρ : α -> Loc) (b : α -> Bool) (f : α -> PyData) (l : List α) (μ : Sto) (Z : Option (List PyData × Sto)) (hZ : compM r fm elt tgt ifs (l.map e) μ = Z)
   (hI : I μ) (h : ∀ x ∈ l, bindT fm.sc false tgt (e x) fm.loc = some (ρ x) /\ ∀ μ, I μ -> ∃ μ', I μ' /\ testsM (r.tr ⟨fm.sc, ρ x⟩) ifs μ = some (b x, μ') /\ (b x = true -> ∃ μ'', I μ'' /\ r.ev ⟨fm.sc, ρ x⟩ elt μ' = some (.d (f x), μ''))) :
   ∃ μ', I μ' /\ Z = some ((l.filter b).map f, μ') := by
 obtain ⟨μ', i, e⟩ := comp_inv e ρ b f l μ h hI
 exact ⟨μ', i, hZ.symm.trans e⟩
noncomputable def pathB (F : Tm -> Tm -> Bool) (rs : List (Str × Int)) (s t : Tm) : Bool :=
 if s.isVar then false else if s = t then false else if (s.kids.filter fun k => decide (k = t) || F k t).isEmpty then
   (if t.isVar then false else if (t.kids.filter fun k => !F s k).isEmpty then gtK (hdK rs s) (hdK rs t) || (decide (hdK rs s = hdK rs t) && fstD F s.kids t.kids) else false)
 else true
section
variable {F : Tm -> Tm -> Bool} {U : List Tm} {C : Addr} {j k : Nat} {h : Option Nat} {rs : List (Str × Int)} {μ : Sto} {r : Rec} {vs : List V}
noncomputable def Says (F : Tm -> Tm -> Bool) (U : List Tm) (C : Addr) (j k : Nat) (h : Option Nat) (rs : List (Str × Int)) (μ : Sto) (Z : Option (V × Sto)) (b : Bool) : Prop :=
 ∃ μ', OS F U C j k h rs μ' /\ Same k μ μ' /\ Z = some (.d (.bool b), μ')
theorem says_if {c b : Bool} {x y : Option (V × Sto)} (h1 : c = true -> Says F U C j k h rs μ x b) (h2 : c = false -> Says F U C j k h rs μ y b) : Says F U C j k h rs μ (if c = true then x else y) b := by
 cases c with
 | true => exact h1 rfl
 | false => exact h2 rfl
theorem says_here {b c : Bool} {μ1 : Sto} (o : OS F U C j k h rs μ1) (s : Same k μ μ1) (e : b = c) : Says F U C j k h rs μ (some (.d (.bool c), μ1)) b := ⟨μ1, o, s, e ▸ rfl⟩
theorem nt {b : Bool} (h : b = false) : ¬b = true := fun e => no_ft (h.symm.trans e)
theorem bite {α β : Type} {c : Prop} [Decidable c] {x y : Option α} {f : α -> Option β} : (if c then x else y).bind f = if c then x.bind f else y.bind f := by
 by_cases h : c
 · rw [if_pos h, if_pos h]
 · rw [if_neg h, if_neg h]
theorem small_filter {s : Tm} {p : Tm -> Bool} : smallLen ((s.kids.filter p).map Tm.enc) = true :=
 small_of (by rw [List.length_map]; exact Nat.le_trans (List.length_filter_le ..) (Nat.le_trans (kids_le s) (by decide)))
theorem ne_filter (hU : Uni U) {s : Tm} (hs : s ∈ U) {p : Tm -> Bool} {μ1 : Sto} : cmpM μ1 .NotEq (.d (.list ((s.kids.filter p).map Tm.enc))) (.d (.list [])) = some (!(s.kids.filter p).isEmpty) :=
 ne_nil fun x hx => Nat.le_trans (hU.ht _ (hU.kids _ hs _ (List.mem_filter.mp hx).1)) (by decide)
theorem path_is (hU : Uni U) {s t : Tm} (hs : s ∈ U) (ht : t ∈ U) {N : Nat} (hA1 : ∀ a ∈ s.kids, ∀ M, N <= M -> Asks F U 117 j k h rs 102 M a t) (hA2 : ∀ b ∈ t.kids, ∀ M, N <= M -> Asks F U 117 j k h rs 102 M s b)
   (hA3 : ∀ a ∈ s.kids, ∀ b ∈ t.kids, ∀ M, N <= M -> Asks F U 117 j k h rs 102 M a b) (hF : F s t = pathB F rs s t) : ∀ M, N + 40 <= M -> Asks F U 117 j k h rs 107 M s t := by
 intro M hM μ o
 obtain ⟨M, rfl⟩ : ∃ m, M = m + 40 := ⟨M - 40, (Nat.sub_add_cancel (Nat.le_trans (Nat.le_add_left _ _) hM)).symm⟩
 have hM : N <= M := Nat.le_of_add_le_add_right hM
 have h50 : ∀ x ∈ U, x.ht <= 50 := fun x hx => Nat.le_trans (hU.ht x hx) (by decide)
 rw [call_fn (show PP.fn 107 = some ⟨_, _, _⟩ from rfl) rfl, hF]
 show Says F U 117 j k h rs μ _ _
 simp -implicitDefEqProofs (disch := first | exact keq rfl | decide | exact Nat.le_trans (by decide) (Nat.le_add_left _ _) | (simp only [List.map_cons, List.map_nil]; decide)) only [↓pureE_ok, ↓pureEs_ok, ↓d_evs, ↓d_tuple, b_as, ↓c_lc1, ↓c_lc2, ↓d_call, ↓p_call, ↓d_meth, ↓p_meth, ↓d_attr, ↓p_attr, ↓d_cmp, ↓p_cmp, ↓d_tcmp, ↓p_tcmp, ↓d_sl1, ↓p_sl1, ↓d_sl2, ↓p_sl2, ↓d_item, ↓p_item, ↓d_bin, ↓p_bin, ↓d_it, ↓p_it, ↓d_lazy, ↓p_lazy, ↓d_ret, ↓p_ret, ↓d_as, ↓p_as, b_call, b_m1, b_m2, b_at, b_v, b_d, b_c1, b_c2, b_c3, b_t1, b_t2, b_t3, ↓c_sl3, b_s, b_i, ↓c_itemC, b_i1, b_i2, b_b1, b_b2, ↓c_neg, ↓c_if, b_if, ↓c_dict, ↓c_list, b_l, ↓c_listm, b_lm, b_tu, ↓c_evs0, b_e1, b_e2, ↓c_bool, ↓c_bo1, ↓c_bo2, b_and, b_or, ↓c_lc, b_lc, b_lc2, b_ld, b_itl, b_itt, b_lz, b_lw, ↓c_itc, ↓c_not, b_not, ↓c_tbool, ↓c_or0, ↓c_and0, ↓c_or, ↓c_and, b_ao, b_aa, ↓c_tcall, b_tb, ↓c_ts0, ↓c_ts, b_ts, ↓exs_then, ↓c_exs0, b_next, b_ret, b_kret, ↓x_alc, ↓x_tt, b_tt, b_nx, ba_nil, ba_cons, ↓x_ti, b_ti, ↓x_store, b_st1, b_st2, b_st3, b_st4, ↓x_if, b_ifs, ↓x_for, b_for, ↓x_while, ↓x_expr, b_ex, b_fnr, b_fnn, ↓lvl_exz, ↓lvl_exs, call_bi, call_ty, freeze_d, ↓if_tt, ↓if_ff, if_true, if_false, Bool.not_true, Bool.not_false, bite, is_var_fn (M + 27) s μ, cmp_tm (μ := μ) (h50 s hs) (h50 t ht), rest_enc]
 refine says_if (fun h1 => says_here o Same.refl (if_pos h1)) fun h1 => says_if (fun h2 => says_here o Same.refl ((if_neg (nt h1)).trans (if_pos (of_decide_eq_true h2)))) fun h2 => ?_
 rw [show pathB F rs s t = _ from (if_neg (nt h1)).trans (if_neg (of_decide_eq_false h2))]
 clear h1 h2 hF
 generalize hZ : compM _ _ _ _ _ _ _ = Z
 have hq := comp_invZ (I := fun μ' => OS F U 117 j k h rs μ' /\ Same k μ μ') Tm.enc (fun x => [(("self" : Str), V.inst 117 j), (("s" : Str), V.d s.enc), (("t" : Str), V.d t.enc), (("kid" : Str), V.d x.enc)]) (fun x => decide (x = t) || F x t) Tm.enc s.kids μ Z hZ ⟨o, Same.refl⟩ ?_
 · clear hZ o
   obtain ⟨μ1, ⟨o1, s1⟩, rfl⟩ := hq
   simp -implicitDefEqProofs (disch := first | exact keq rfl | decide | exact Nat.le_trans (by decide) (Nat.le_add_left _ _) | (simp only [List.map_cons, List.map_nil]; decide)) only [↓pureE_ok, ↓pureEs_ok, ↓d_evs, ↓d_tuple, b_as, ↓c_lc1, ↓c_lc2, ↓d_call, ↓p_call, ↓d_meth, ↓p_meth, ↓d_attr, ↓p_attr, ↓d_cmp, ↓p_cmp, ↓d_tcmp, ↓p_tcmp, ↓d_sl1, ↓p_sl1, ↓d_sl2, ↓p_sl2, ↓d_item, ↓p_item, ↓d_bin, ↓p_bin, ↓d_it, ↓p_it, ↓d_lazy, ↓p_lazy, ↓d_ret, ↓p_ret, ↓d_as, ↓p_as, b_call, b_m1, b_m2, b_at, b_v, b_d, b_c1, b_c2, b_c3, b_t1, b_t2, b_t3, ↓c_sl3, b_s, b_i, ↓c_itemC, b_i1, b_i2, b_b1, b_b2, ↓c_neg, ↓c_if, b_if, ↓c_dict, ↓c_list, b_l, ↓c_listm, b_lm, b_tu, ↓c_evs0, b_e1, b_e2, ↓c_bool, ↓c_bo1, ↓c_bo2, b_and, b_or, ↓c_lc, b_lc, b_lc2, b_ld, b_itl, b_itt, b_lz, b_lw, ↓c_itc, ↓c_not, b_not, ↓c_tbool, ↓c_or0, ↓c_and0, ↓c_or, ↓c_and, b_ao, b_aa, ↓c_tcall, b_tb, ↓c_ts0, ↓c_ts, b_ts, ↓exs_then, ↓c_exs0, b_next, b_ret, b_kret, ↓x_alc, ↓x_tt, b_tt, b_nx, ba_nil, ba_cons, ↓x_ti, b_ti, ↓x_store, b_st1, b_st2, b_st3, b_st4, ↓x_if, b_ifs, ↓x_for, b_for, ↓x_while, ↓x_expr, b_ex, b_fnr, b_fnn, ↓lvl_exz, ↓lvl_exs, call_bi, call_ty, freeze_d, ↓if_tt, ↓if_ff, if_true, if_false, Bool.not_true, Bool.not_false, bite, small_filter, ne_filter hU hs, is_var_fn (M + 27) t μ1, rest_enc]
   generalize (s.kids.filter fun x => decide (x = t) || F x t).isEmpty = e1
   refine says_if (fun h1 => says_here o1 s1 (by cases e1 <;> first | rfl | exact no_ft h1)) fun h1 => ?_
   have h1 : e1 = true := by cases e1 <;> first | rfl | exact no_ft h1.symm
   subst h1
   refine says_if (fun h2 => says_here o1 s1 (if_pos h2)) fun h2 => ?_
   rw [if_pos rfl, if_neg (nt h2)]
   clear h2
   generalize hZ : compM _ _ _ _ _ _ _ = Z
   have hq := comp_invZ (I := fun μ' => OS F U 117 j k h rs μ' /\ Same k μ μ') Tm.enc (fun x => [(("self" : Str), V.inst 117 j), (("s" : Str), V.d s.enc), (("t" : Str), V.d t.enc), (("kid" : Str), V.d x.enc)]) (fun x => !F s x) Tm.enc t.kids μ1 Z hZ ⟨o1, s1⟩ ?_
   · clear hZ o1 s1
     obtain ⟨μ2, ⟨o2, s2⟩, rfl⟩ := hq
     obtain ⟨μ3, o3, s3, e3⟩ := first_fn hU hs ht hA3 (M + 35) (Nat.add_le_add hM (by decide)) o2
     simp -implicitDefEqProofs (disch := first | exact keq rfl | decide | exact Nat.le_trans (by decide) (Nat.le_add_left _ _) | (simp only [List.map_cons, List.map_nil]; decide)) only [↓pureE_ok, ↓pureEs_ok, ↓d_evs, ↓d_tuple, b_as, ↓c_lc1, ↓c_lc2, ↓d_call, ↓p_call, ↓d_meth, ↓p_meth, ↓d_attr, ↓p_attr, ↓d_cmp, ↓p_cmp, ↓d_tcmp, ↓p_tcmp, ↓d_sl1, ↓p_sl1, ↓d_sl2, ↓p_sl2, ↓d_item, ↓p_item, ↓d_bin, ↓p_bin, ↓d_it, ↓p_it, ↓d_lazy, ↓p_lazy, ↓d_ret, ↓p_ret, ↓d_as, ↓p_as, b_call, b_m1, b_m2, b_at, b_v, b_d, b_c1, b_c2, b_c3, b_t1, b_t2, b_t3, ↓c_sl3, b_s, b_i, ↓c_itemC, b_i1, b_i2, b_b1, b_b2, ↓c_neg, ↓c_if, b_if, ↓c_dict, ↓c_list, b_l, ↓c_listm, b_lm, b_tu, ↓c_evs0, b_e1, b_e2, ↓c_bool, ↓c_bo1, ↓c_bo2, b_and, b_or, ↓c_lc, b_lc, b_lc2, b_ld, b_itl, b_itt, b_lz, b_lw, ↓c_itc, ↓c_not, b_not, ↓c_tbool, ↓c_or0, ↓c_and0, ↓c_or, ↓c_and, b_ao, b_aa, ↓c_tcall, b_tb, ↓c_ts0, ↓c_ts, b_ts, ↓exs_then, ↓c_exs0, b_next, b_ret, b_kret, ↓x_alc, ↓x_tt, b_tt, b_nx, ba_nil, ba_cons, ↓x_ti, b_ti, ↓x_store, b_st1, b_st2, b_st3, b_st4, ↓x_if, b_ifs, ↓x_for, b_for, ↓x_while, ↓x_expr, b_ex, b_fnr, b_fnn, ↓lvl_exz, ↓lvl_exs, call_bi, call_ty, freeze_d, ↓if_tt, ↓if_ff, if_true, if_false, Bool.not_true, Bool.not_false, bite, small_filter, ne_filter hU ht, at_ranks o2, place_fn _ isrn_dict, gt_tup, eq_tup, pre_first o2, me_first o2.cls, rest_enc, e3]
     generalize (t.kids.filter fun x => !F s x).isEmpty = e1
     refine says_if (fun h1 => says_here o2 s2 (by cases e1 <;> first | rfl | exact no_ft h1)) fun h1 => ?_
     have h1 : e1 = true := by cases e1 <;> first | rfl | exact no_ft h1.symm
     subst h1
     rw [if_pos rfl]
     cases gtK (hdK rs s) (hdK rs t) with
     | true => exact ⟨μ2, o2, s2, rfl⟩
     | false =>
     cases decide (hdK rs s = hdK rs t) with
     | false => exact ⟨μ2, o2, s2, rfl⟩
     | true => exact ⟨μ3, o3, s2.trans s3, rfl⟩
   · intro x hx
     refine ⟨by rfl, fun μ3 q => ?_⟩
     obtain ⟨μ4, o4, s4, e4⟩ := hA2 x hx (M + 32) (Nat.le_add_right_of_le hM) μ3 q.1
     refine ⟨μ4, ⟨o4, q.2.trans s4⟩, ?_, fun _ => ⟨μ4, ⟨o4, q.2.trans s4⟩, by rfl⟩⟩
     simp -implicitDefEqProofs (disch := first | exact keq rfl | decide | exact Nat.le_trans (by decide) (Nat.le_add_left _ _) | (simp only [List.map_cons, List.map_nil]; decide)) only [↓pureE_ok, ↓pureEs_ok, ↓d_evs, ↓d_tuple, b_as, ↓c_lc1, ↓c_lc2, ↓d_call, ↓p_call, ↓d_meth, ↓p_meth, ↓d_attr, ↓p_attr, ↓d_cmp, ↓p_cmp, ↓d_tcmp, ↓p_tcmp, ↓d_sl1, ↓p_sl1, ↓d_sl2, ↓p_sl2, ↓d_item, ↓p_item, ↓d_bin, ↓p_bin, ↓d_it, ↓p_it, ↓d_lazy, ↓p_lazy, ↓d_ret, ↓p_ret, ↓d_as, ↓p_as, b_call, b_m1, b_m2, b_at, b_v, b_d, b_c1, b_c2, b_c3, b_t1, b_t2, b_t3, ↓c_sl3, b_s, b_i, ↓c_itemC, b_i1, b_i2, b_b1, b_b2, ↓c_neg, ↓c_if, b_if, ↓c_dict, ↓c_list, b_l, ↓c_listm, b_lm, b_tu, ↓c_evs0, b_e1, b_e2, ↓c_bool, ↓c_bo1, ↓c_bo2, b_and, b_or, ↓c_lc, b_lc, b_lc2, b_ld, b_itl, b_itt, b_lz, b_lw, ↓c_itc, ↓c_not, b_not, ↓c_tbool, ↓c_or0, ↓c_and0, ↓c_or, ↓c_and, b_ao, b_aa, ↓c_tcall, b_tb, ↓c_ts0, ↓c_ts, b_ts, ↓exs_then, ↓c_exs0, b_next, b_ret, b_kret, ↓x_alc, ↓x_tt, b_tt, b_nx, ba_nil, ba_cons, ↓x_ti, b_ti, ↓x_store, b_st1, b_st2, b_st3, b_st4, ↓x_if, b_ifs, ↓x_for, b_for, ↓x_while, ↓x_expr, b_ex, b_fnr, b_fnn, ↓lvl_exz, ↓lvl_exs, call_bi, call_ty, freeze_d, ↓if_tt, ↓if_ff, if_true, if_false, Bool.not_true, Bool.not_false, pre_above q.1, me_above q.1.cls, e4]
     cases F s x <;> rfl
 · intro x hx
   refine ⟨by rfl, fun μ2 q => ?_⟩
   have heq2 := cmp_tm (μ := μ2) (s := x) (t := t) (h50 x (hU.kids _ hs _ hx)) (h50 t ht)
   by_cases hxt : x = t
   · rw [decide_eq_true hxt] at heq2 ⊢
     refine ⟨μ2, q, ?_, fun _ => ⟨μ2, q, by rfl⟩⟩
     simp -implicitDefEqProofs (disch := first | exact keq rfl | decide | exact Nat.le_trans (by decide) (Nat.le_add_left _ _) | (simp only [List.map_cons, List.map_nil]; decide)) only [↓pureE_ok, ↓pureEs_ok, ↓d_evs, ↓d_tuple, b_as, ↓c_lc1, ↓c_lc2, ↓d_call, ↓p_call, ↓d_meth, ↓p_meth, ↓d_attr, ↓p_attr, ↓d_cmp, ↓p_cmp, ↓d_tcmp, ↓p_tcmp, ↓d_sl1, ↓p_sl1, ↓d_sl2, ↓p_sl2, ↓d_item, ↓p_item, ↓d_bin, ↓p_bin, ↓d_it, ↓p_it, ↓d_lazy, ↓p_lazy, ↓d_ret, ↓p_ret, ↓d_as, ↓p_as, b_call, b_m1, b_m2, b_at, b_v, b_d, b_c1, b_c2, b_c3, b_t1, b_t2, b_t3, ↓c_sl3, b_s, b_i, ↓c_itemC, b_i1, b_i2, b_b1, b_b2, ↓c_neg, ↓c_if, b_if, ↓c_dict, ↓c_list, b_l, ↓c_listm, b_lm, b_tu, ↓c_evs0, b_e1, b_e2, ↓c_bool, ↓c_bo1, ↓c_bo2, b_and, b_or, ↓c_lc, b_lc, b_lc2, b_ld, b_itl, b_itt, b_lz, b_lw, ↓c_itc, ↓c_not, b_not, ↓c_tbool, ↓c_or0, ↓c_and0, ↓c_or, ↓c_and, b_ao, b_aa, ↓c_tcall, b_tb, ↓c_ts0, ↓c_ts, b_ts, ↓exs_then, ↓c_exs0, b_next, b_ret, b_kret, ↓x_alc, ↓x_tt, b_tt, b_nx, ba_nil, ba_cons, ↓x_ti, b_ti, ↓x_store, b_st1, b_st2, b_st3, b_st4, ↓x_if, b_ifs, ↓x_for, b_for, ↓x_while, ↓x_expr, b_ex, b_fnr, b_fnn, ↓lvl_exz, ↓lvl_exs, call_bi, call_ty, freeze_d, ↓if_tt, ↓if_ff, if_true, if_false, Bool.not_true, Bool.not_false, heq2]
     rfl
   · rw [decide_eq_false hxt] at heq2 ⊢
     obtain ⟨μ3, o3, s3, e3⟩ := hA1 x hx (M + 33) (Nat.le_add_right_of_le hM) μ2 q.1
     refine ⟨μ3, ⟨o3, q.2.trans s3⟩, ?_, fun _ => ⟨μ3, ⟨o3, q.2.trans s3⟩, by rfl⟩⟩
     simp -implicitDefEqProofs (disch := first | exact keq rfl | decide | exact Nat.le_trans (by decide) (Nat.le_add_left _ _) | (simp only [List.map_cons, List.map_nil]; decide)) only [↓pureE_ok, ↓pureEs_ok, ↓d_evs, ↓d_tuple, b_as, ↓c_lc1, ↓c_lc2, ↓d_call, ↓p_call, ↓d_meth, ↓p_meth, ↓d_attr, ↓p_attr, ↓d_cmp, ↓p_cmp, ↓d_tcmp, ↓p_tcmp, ↓d_sl1, ↓p_sl1, ↓d_sl2, ↓p_sl2, ↓d_item, ↓p_item, ↓d_bin, ↓p_bin, ↓d_it, ↓p_it, ↓d_lazy, ↓p_lazy, ↓d_ret, ↓p_ret, ↓d_as, ↓p_as, b_call, b_m1, b_m2, b_at, b_v, b_d, b_c1, b_c2, b_c3, b_t1, b_t2, b_t3, ↓c_sl3, b_s, b_i, ↓c_itemC, b_i1, b_i2, b_b1, b_b2, ↓c_neg, ↓c_if, b_if, ↓c_dict, ↓c_list, b_l, ↓c_listm, b_lm, b_tu, ↓c_evs0, b_e1, b_e2, ↓c_bool, ↓c_bo1, ↓c_bo2, b_and, b_or, ↓c_lc, b_lc, b_lc2, b_ld, b_itl, b_itt, b_lz, b_lw, ↓c_itc, ↓c_not, b_not, ↓c_tbool, ↓c_or0, ↓c_and0, ↓c_or, ↓c_and, b_ao, b_aa, ↓c_tcall, b_tb, ↓c_ts0, ↓c_ts, b_ts, ↓exs_then, ↓c_exs0, b_next, b_ret, b_kret, ↓x_alc, ↓x_tt, b_tt, b_nx, ba_nil, ba_cons, ↓x_ti, b_ti, ↓x_store, b_st1, b_st2, b_st3, b_st4, ↓x_if, b_ifs, ↓x_for, b_for, ↓x_while, ↓x_expr, b_ex, b_fnr, b_fnn, ↓lvl_exz, ↓lvl_exs, call_bi, call_ty, freeze_d, ↓if_tt, ↓if_ff, if_true, if_false, Bool.not_true, Bool.not_false, heq2, pre_above q.1, me_above q.1.cls, e3]
     cases F x t <;> rfl
end
end Mine.L
end
section
namespace Mine.L
open PySem
noncomputable def PR (rs : List (Str × Int)) : Tm -> Tm -> Bool := R (hdK rs) gtK
theorem PR_eq (rs : List (Str × Int)) (s t : Tm) : PR rs s t = pathB (PR rs) rs s t := by
 have h : PR rs s t = bodyR (hdK rs) gtK (PR rs) s t := R_eq _ _ s t
 unfold pathB
 by_cases hs : s.isVar = true
 · rw [if_pos hs, h, bodyR, var_kids hs, hs]; rfl
 rw [if_neg hs]
 by_cases he : s = t
 · rw [if_pos he, he]; exact R_irr _ _ gtK_irr t
 rw [if_neg he, h, bodyR]
 have e1 : (s.kids.filter fun k => decide (k = t) || PR rs k t).isEmpty = !s.kids.any fun k => decide (k = t) || PR rs k t := by
   rw [Bool.eq_iff_iff, List.isEmpty_iff, List.filter_eq_nil_iff, Bool.not_eq_true', List.any_eq_false]
 have e2 : (t.kids.filter fun k => !PR rs s k).isEmpty = t.kids.all fun k => PR rs s k := by
   rw [Bool.eq_iff_iff, List.isEmpty_iff, List.filter_eq_nil_iff, List.all_eq_true]
   exact forall_congr' fun x => forall_congr' fun _ => by cases PR rs s x <;> decide
 rw [e1, e2]
 cases s.kids.any fun k => decide (k = t) || PR rs k t with
 | true => rfl
 | false =>
   rw [Bool.eq_false_iff.mpr hs]
   cases t.isVar <;> cases t.kids.all (fun k => PR rs s k) <;> rfl
section
variable {U : List Tm} {j k : Nat} {h : Option Nat} {rs : List (Str × Int)} {μ : Sto}
theorem path_above (hU : Uni U) : ∀ (m : Nat) (s t : Tm), s ∈ U -> t ∈ U -> s.ht + t.ht <= m -> ∀ M, 60 * m + 60 <= M -> Asks (PR rs) U 117 j k h rs 102 M s t := by
 intro m
 induction m with
 | zero =>
   intro s t hs ht hm
   refine fun M hM => above_of hU hs ht (fun M hM => path_is (N := 0) hU hs ht ?_ ?_ ?_ (PR_eq rs s t) M hM) M (Nat.le_trans (by decide) hM)
   · exact fun a ha => absurd (Nat.lt_of_lt_of_le (ht_kid ha) (Nat.le_trans (Nat.le_add_right _ _) hm)) (Nat.not_lt_zero _)
   · exact fun a ha => absurd (Nat.lt_of_lt_of_le (ht_kid ha) (Nat.le_trans (Nat.le_add_left _ _) hm)) (Nat.not_lt_zero _)
   · exact fun a ha => absurd (Nat.lt_of_lt_of_le (ht_kid ha) (Nat.le_trans (Nat.le_add_right _ _) hm)) (Nat.not_lt_zero _)
 | succ m ih =>
   intro s t hs ht hm
   refine fun M hM => above_of hU hs ht (fun M hM => path_is (N := 60 * m + 60) hU hs ht ?_ ?_ ?_ (PR_eq rs s t) M hM) M (by omega)
   · exact fun a ha => ih a t (hU.kids s hs a ha) ht (Nat.le_of_lt_succ (Nat.lt_of_lt_of_le (Nat.add_lt_add_right (ht_kid ha) _) hm))
   · exact fun b hb => ih s b hs (hU.kids t ht b hb) (Nat.le_of_lt_succ (Nat.lt_of_lt_of_le (Nat.add_lt_add_left (ht_kid hb) _) hm))
   · exact fun a ha b hb => ih a b (hU.kids s hs a ha) (hU.kids t ht b hb) (Nat.le_of_lt_succ (Nat.lt_of_lt_of_le (Nat.add_lt_add (ht_kid ha) (ht_kid hb)) hm))
end
theorem lvl_at {P : Nat -> Prop} {c M : Nat} (h : ∀ n, P (n + c)) (hM : c <= M) : P M := by
 exact Nat.sub_add_cancel hM ▸ h (M - c)
theorem parts_at (t : Tm) (M : Nat) (μ : Sto) (ht : t.ht <= 2) (hM : 36 <= M) : (Lvl PP M).call (.con (.ref 67)) [.d t.enc] μ = some (.d (.list ((partsP t).map Pth.enc)), μ ++ deads t.size) :=
 lvl_at (P := fun M => (Lvl PP M).call (.con (.ref 67)) [.d t.enc] μ = some (.d (.list ((partsP t).map Pth.enc)), μ ++ deads t.size)) (fun n => parts_fn t n μ (Nat.le_succ_of_le ht)) (Nat.le_trans (Nat.add_le_add_right (Nat.mul_le_mul_left 12 ht) 12) hM : 12 * t.ht + 12 <= M)
theorem counted_at (t : Tm) (M : Nat) (μ : Sto) (ht : t.ht <= 2) (hM : 42 <= M) : (Lvl PP M).call (.con (.ref 81)) [.d t.enc] μ = some (.dict (rnD (cntOf t)), μ ++ deads (t.size + 1)) :=
 lvl_at (P := fun M => (Lvl PP M).call (.con (.ref 81)) [.d t.enc] μ = some (.dict (rnD (cntOf t)), μ ++ deads (t.size + 1))) (fun n => counted_fn t n μ (Nat.le_succ_of_le ht)) (Nat.le_trans (Nat.add_le_add_right (Nat.mul_le_mul_left 12 ht) 18) hM : 12 * t.ht + 18 <= M)
noncomputable def overB (s t : Tm) : Bool := (namesOf t).any fun x => isVarN x && decide ((namesOf s).count x < (namesOf t).count x)
noncomputable def weightB (F : Tm -> Tm -> Bool) (rs : List (Str × Int)) (s t : Tm) : Bool :=
 if s.isVar then false else if s = t then false else if overB s t then false else if (!decide (s.size = t.size)) || t.isVar then decide (t.size < s.size) else
   gtK (hdK rs s) (hdK rs t) || (decide (hdK rs s = hdK rs t) && fstD F s.kids t.kids)
noncomputable def WF (rs : List (Str × Int)) : Nat -> Tm -> Tm -> Bool
 | 0 => fun _ _ => false
 | n + 1 => weightB (WF rs n) rs
theorem weightB_congr {f g : Tm -> Tm -> Bool} {rs : List (Str × Int)} {s t : Tm} (h : ∀ a ∈ s.kids, ∀ b ∈ t.kids, f a b = g a b) : weightB f rs s t = weightB g rs s t := by
 unfold weightB; rw [fstD_congr h]
theorem WF_stable (rs : List (Str × Int)) (n : Nat) : ∀ (m : Nat) (s t : Tm), s.size <= n -> s.size <= m -> WF rs n s t = WF rs m s t := by
 induction n with
 | zero => exact fun _ s _ h _ => absurd h (Nat.not_le_of_gt s.size_pos)
 | succ n ih =>
   intro m s t h1 h2
   cases m with
   | zero => exact absurd h2 (Nat.not_le_of_gt s.size_pos)
   | succ m => exact weightB_congr fun a ha b hb => ih m a b (Nat.le_of_lt_succ (Nat.lt_of_lt_of_le (Tm.size_kid ha) h1)) (Nat.le_of_lt_succ (Nat.lt_of_lt_of_le (Tm.size_kid ha) h2))
noncomputable def WR (rs : List (Str × Int)) (s t : Tm) : Bool := WF rs s.size s t
theorem WR_eq (rs : List (Str × Int)) (s t : Tm) : WR rs s t = weightB (WR rs) rs s t := by
 have h : WR rs s t = WF rs (s.size + 1) s t := WF_stable rs _ _ s t (Nat.le_refl _) (Nat.le_succ _)
 rw [h]
 exact weightB_congr fun a ha b hb => WF_stable rs _ _ a b (Nat.le_of_lt (Tm.size_kid ha)) (Nat.le_refl _)
theorem sum_ones (l : List Pth) : sumD (l.map fun _ => PyData.int 1) = some (l.length : Int) := by
 induction l with
 | nil => rfl
 | cons p l ih =>
   show (sumD (l.map fun _ => PyData.int 1)).bind _ = _
   rw [ih]
   exact congrArg some (Int.add_comm 1 _)
theorem pre_get0 {μ : Sto} {i : Nat} (h : μ[i]? = some (.dict [])) : preM PP μ (.obj i) "get" = true := by
 show (match (μ[i]?).bind dictO with | some l => strKeys l | none => false) = true
 rw [h]; rfl
theorem get0 {μ : Sto} {i : Nat} {r : Rec} {x : Str} {y : Int} (h : μ[i]? = some (.dict [])) : callMeth PP r (.obj i) "get" [.d (.str x), .d (.int y)] μ = some (.d (.int y), μ) := by
 show ((μ[i]?).bind dictO).bind _ = _
 rw [h]; rfl
theorem sum_list {μ : Sto} {l : List PyData} {s : Int} (h : sumD l = some s) (hl : smallLen l = true) : builtinM μ (.builtin "sum") [.d (.list l)] = some (.d (.int s), μ) := by
 show (sumD l).bind _ = _
 rw [h]
 exact if_pos hl
section
variable {F : Tm -> Tm -> Bool} {U : List Tm} {j k i : Nat} {rs : List (Str × Int)} {μ : Sto}
theorem weight_fn (hU : Uni U) {t : Tm} (ht : t ∈ U) (M : Nat) (hM : 50 <= M) (o : OS F U 150 j k (some i) rs μ) : (Lvl PP M).call (.con (.ref 142)) [.inst 150 j, .d t.enc] μ = some (.d (.int t.size), μ ++ deads t.size) := by
 have hth := hU.ht t ht
 obtain ⟨M, rfl⟩ : ∃ m, M = m + 50 := ⟨M - 50, by omega⟩
 rw [call_fn (show PP.fn 142 = some ⟨_, _, _⟩ from rfl) rfl]
 have hsz := size_small (t := t) (by omega)
 simp -implicitDefEqProofs (disch := first | exact keq rfl | decide | exact Nat.le_trans (by decide) (Nat.le_add_left _ _) | exact Nat.le_add_right_of_le (Nat.le_trans (by decide) (Nat.le_add_left _ _)) | (simp only [List.map_cons, List.map_nil]; decide)) only [↓pureE_ok, ↓pureEs_ok, ↓d_evs, ↓d_tuple, b_as, ↓c_lc1, ↓c_lc2, ↓d_call, ↓p_call, ↓d_meth, ↓p_meth, ↓d_attr, ↓p_attr, ↓d_cmp, ↓p_cmp, ↓d_tcmp, ↓p_tcmp, ↓d_sl1, ↓p_sl1, ↓d_sl2, ↓p_sl2, ↓d_item, ↓p_item, ↓d_bin, ↓p_bin, ↓d_it, ↓p_it, ↓d_lazy, ↓p_lazy, ↓d_ret, ↓p_ret, ↓d_as, ↓p_as, b_call, b_m1, b_m2, b_at, b_v, b_d, b_c1, b_c2, b_c3, b_t1, b_t2, b_t3, ↓c_sl3, b_s, b_i, ↓c_itemC, b_i1, b_i2, b_b1, b_b2, ↓c_neg, ↓c_if, b_if, ↓c_dict, ↓c_list, b_l, ↓c_listm, b_lm, b_tu, ↓c_evs0, b_e1, b_e2, ↓c_bool, ↓c_bo1, ↓c_bo2, b_and, b_or, ↓c_lc, b_lc, b_lc2, b_ld, b_itl, b_itt, b_lz, b_lw, ↓c_itc, ↓c_not, b_not, ↓c_tbool, ↓c_or0, ↓c_and0, ↓c_or, ↓c_and, b_ao, b_aa, ↓c_tcall, b_tb, ↓c_ts0, ↓c_ts, b_ts, ↓exs_then, ↓c_exs0, b_next, b_ret, b_kret, ↓x_alc, ↓x_tt, b_tt, b_nx, ba_nil, ba_cons, ↓x_ti, b_ti, ↓x_store, b_st1, b_st2, b_st3, b_st4, ↓x_if, b_ifs, ↓x_for, b_for, ↓x_while, ↓x_expr, b_ex, b_fnr, b_fnn, ↓lvl_exz, ↓lvl_exs, call_bi, call_ty, freeze_d, ↓if_tt, ↓if_ff, if_true, if_false, Bool.not_true, Bool.not_false, fun M hM => parts_at t M μ hth hM]
 rw [comp_pure Pth.enc (fun x => [(("self" : Str), V.inst 150 j), (("t" : Str), V.d t.enc), (("path" : Str), V.d (.tuple (x.1.map fun k => .int (k : Nat)))), (("part" : Str), V.d x.2.enc)]) (fun x => true) (fun x => .int 1) (partsP t) (fun x hx => ⟨by rfl, rfl, fun _ => ?_⟩)]
 · rw [List.filter_eq_self.mpr (fun _ _ => rfl)]
   have hsm : smallLen ((partsP t).map fun x => PyData.int 1) = true := small_of (by rw [List.length_map, parts_len]; omega)
   have hsum := sum_list (μ := μ ++ deads t.size) (sum_ones (partsP t)) hsm
   rw [parts_len] at hsum
   simp -implicitDefEqProofs (disch := first | exact keq rfl | decide | exact Nat.le_trans (by decide) (Nat.le_add_left _ _) | exact Nat.le_add_right_of_le (Nat.le_trans (by decide) (Nat.le_add_left _ _)) | (simp only [List.map_cons, List.map_nil]; decide)) only [↓pureE_ok, ↓pureEs_ok, ↓d_evs, ↓d_tuple, b_as, ↓c_lc1, ↓c_lc2, ↓d_call, ↓p_call, ↓d_meth, ↓p_meth, ↓d_attr, ↓p_attr, ↓d_cmp, ↓p_cmp, ↓d_tcmp, ↓p_tcmp, ↓d_sl1, ↓p_sl1, ↓d_sl2, ↓p_sl2, ↓d_item, ↓p_item, ↓d_bin, ↓p_bin, ↓d_it, ↓p_it, ↓d_lazy, ↓p_lazy, ↓d_ret, ↓p_ret, ↓d_as, ↓p_as, b_call, b_m1, b_m2, b_at, b_v, b_d, b_c1, b_c2, b_c3, b_t1, b_t2, b_t3, ↓c_sl3, b_s, b_i, ↓c_itemC, b_i1, b_i2, b_b1, b_b2, ↓c_neg, ↓c_if, b_if, ↓c_dict, ↓c_list, b_l, ↓c_listm, b_lm, b_tu, ↓c_evs0, b_e1, b_e2, ↓c_bool, ↓c_bo1, ↓c_bo2, b_and, b_or, ↓c_lc, b_lc, b_lc2, b_ld, b_itl, b_itt, b_lz, b_lw, ↓c_itc, ↓c_not, b_not, ↓c_tbool, ↓c_or0, ↓c_and0, ↓c_or, ↓c_and, b_ao, b_aa, ↓c_tcall, b_tb, ↓c_ts0, ↓c_ts, b_ts, ↓exs_then, ↓c_exs0, b_next, b_ret, b_kret, ↓x_alc, ↓x_tt, b_tt, b_nx, ba_nil, ba_cons, ↓x_ti, b_ti, ↓x_store, b_st1, b_st2, b_st3, b_st4, ↓x_if, b_ifs, ↓x_for, b_for, ↓x_while, ↓x_expr, b_ex, b_fnr, b_fnn, ↓lvl_exz, ↓lvl_exs, call_bi, call_ty, freeze_d, ↓if_tt, ↓if_ff, if_true, if_false, Bool.not_true, Bool.not_false, hsm, hsum]
 · have o' := OS.app (e := deads t.size) o
   simp -implicitDefEqProofs (disch := first | exact keq rfl | decide | exact Nat.le_trans (by decide) (Nat.le_add_left _ _) | exact Nat.le_add_right_of_le (Nat.le_trans (by decide) (Nat.le_add_left _ _)) | (simp only [List.map_cons, List.map_nil]; decide)) only [↓pureE_ok, ↓pureEs_ok, ↓d_evs, ↓d_tuple, b_as, ↓c_lc1, ↓c_lc2, ↓d_call, ↓p_call, ↓d_meth, ↓p_meth, ↓d_attr, ↓p_attr, ↓d_cmp, ↓p_cmp, ↓d_tcmp, ↓p_tcmp, ↓d_sl1, ↓p_sl1, ↓d_sl2, ↓p_sl2, ↓d_item, ↓p_item, ↓d_bin, ↓p_bin, ↓d_it, ↓p_it, ↓d_lazy, ↓p_lazy, ↓d_ret, ↓p_ret, ↓d_as, ↓p_as, b_call, b_m1, b_m2, b_at, b_v, b_d, b_c1, b_c2, b_c3, b_t1, b_t2, b_t3, ↓c_sl3, b_s, b_i, ↓c_itemC, b_i1, b_i2, b_b1, b_b2, ↓c_neg, ↓c_if, b_if, ↓c_dict, ↓c_list, b_l, ↓c_listm, b_lm, b_tu, ↓c_evs0, b_e1, b_e2, ↓c_bool, ↓c_bo1, ↓c_bo2, b_and, b_or, ↓c_lc, b_lc, b_lc2, b_ld, b_itl, b_itt, b_lz, b_lw, ↓c_itc, ↓c_not, b_not, ↓c_tbool, ↓c_or0, ↓c_and0, ↓c_or, ↓c_and, b_ao, b_aa, ↓c_tcall, b_tb, ↓c_ts0, ↓c_ts, b_ts, ↓exs_then, ↓c_exs0, b_next, b_ret, b_kret, ↓x_alc, ↓x_tt, b_tt, b_nx, ba_nil, ba_cons, ↓x_ti, b_ti, ↓x_store, b_st1, b_st2, b_st3, b_st4, ↓x_if, b_ifs, ↓x_for, b_for, ↓x_while, ↓x_expr, b_ex, b_fnr, b_fnn, ↓lvl_exz, ↓lvl_exs, call_bi, call_ty, freeze_d, ↓if_tt, ↓if_ff, if_true, if_false, Bool.not_true, Bool.not_false, is_var_fn, at_weights o', pre_get0 (o'.wt i rfl).1, get0 (o'.wt i rfl).1, op_enc]
   cases x.2.isVar <;> rfl
end
end Mine.L
end
section
namespace Mine.L
open PySem
theorem cnt_rk (t : Tm) (x : Str) : rkOf (cntOf t) x = vcnt (namesOf t) x := by
 unfold cntOf; rw [cfold_rk]; exact Int.zero_add _
theorem cnt_keys (t : Tm) : Keys (cntOf t) := keys_fold _ _ ⟨List.nodup_nil, fun _ h => (List.not_mem_nil h).elim⟩
theorem rk_mem {cs : List (Str × Int)} {x : Str} (h : rkOf cs x ≠ 0) : x ∈ cs.map (·.1) := by
 unfold rkOf at h
 cases hq : cs.lookup x with
 | none => rw [hq] at h; exact absurd rfl h
 | some v => exact List.mem_map.mpr ⟨_, lookup_mem' hq, rfl⟩
theorem mem_rk {cs : List (Str × Int)} {x : Str} (h : x ∈ cs.map (·.1)) : cs.lookup x = some (rkOf cs x) := by
 unfold rkOf
 cases hq : cs.lookup x with
 | none => exact absurd h (lookup_none' hq)
 | some v => rfl
theorem cnt_nat {t : Tm} {x : Str} (h : isVarN x = true) : rkOf (cntOf t) x = ((namesOf t).count x : Nat) := (cnt_rk t x).trans (congrArg Int.ofNat (if_pos h))
theorem over_eq (s t : Tm) {ks : List Str} (hk : ∀ x, x ∈ ks ↔ x ∈ (cntOf t).map (·.1)) : (ks.filter fun x => decide (rkOf (cntOf s) x < rkOf (cntOf t) x)).isEmpty = !overB s t := by
 rw [Bool.eq_iff_iff, List.isEmpty_iff, List.filter_eq_nil_iff, Bool.not_eq_true', overB, List.any_eq_false]
 have e : ∀ {x}, isVarN x = true -> (rkOf (cntOf s) x < rkOf (cntOf t) x ↔ (namesOf s).count x < (namesOf t).count x) := fun h => by rw [cnt_nat h, cnt_nat h]; exact Int.ofNat_lt
 constructor
 · intro h x hx hc
   have hv := (and_t hc).1
   have hlt := of_decide_eq_true (and_t hc).2
   refine h x ((hk x).mpr (rk_mem fun z => ?_)) (decide_eq_true ((e hv).mpr hlt))
   rw [cnt_nat hv] at z
   exact absurd hlt (Int.ofNat_inj.mp z ▸ Nat.not_lt_zero _)
 · intro h x hx hc
   have hv := (cnt_keys t).2 x ((hk x).mp hx)
   have hlt := (e hv).mp (of_decide_eq_true hc)
   exact h x (List.count_pos_iff.mp (Nat.lt_of_le_of_lt (Nat.zero_le _) hlt)) (Bool.and_eq_true_iff.mpr ⟨hv, decide_eq_true hlt⟩)
theorem var_ok {x : Str} (h : isVarN x = true) : PyData.strOk x = true := by
 rcases var_two h with rfl | rfl <;> decide +kernel
theorem ne_nil_str {μ : Sto} {l : List Str} (h : ∀ x ∈ l, isVarN x = true) : cmpM μ .NotEq (.d (.list (l.map .str))) (.d (.list [])) = some (!l.isEmpty) :=
 cmp_ne ((okd_list (k := 0) fun y hy => by obtain ⟨x, hx, rfl⟩ := List.mem_map.mp hy; exact okd_str (var_ok (h x hx)) 0).mono (by decide)) ((okd_list (l := []) (k := 0) fun _ h => (List.not_mem_nil h).elim).mono (by decide)) (by cases l <;> simp)
theorem ne_nat {μ : Sto} {a b : Nat} : cmpM μ .NotEq (.d (.int a)) (.d (.int b)) = some (!decide (a = b)) := cmp_ne (okd_int _ _) (okd_int _ _) (decide_eq_true_iff.trans ⟨fun h => h ▸ rfl, fun h => Int.ofNat_inj.mp (PyData.int.inj h)⟩)
theorem gt_nat {μ : Sto} {a b : Nat} : cmpM μ .Gt (.d (.int a)) (.d (.int b)) = some (decide (b < a)) := by
 show some (decide ((b : Int) < a)) = _
 exact congrArg some (decide_eq_decide.mpr Int.ofNat_lt)
theorem gt_int {μ : Sto} {a b : Int} : cmpM μ .Gt (.d (.int a)) (.d (.int b)) = some (decide (b < a)) := rfl
theorem item_rn {μ : Sto} {cs : List (Str × Int)} {x : Str} (h : x ∈ cs.map (·.1)) : itemM μ (.dict (rnD cs)) (.d (.str x)) = some (.d (.int (rkOf cs x))) := by
 show (if askOk (.str x) (rnD cs) then (Spec.lookup (.str x) (rnD cs)).map V.d else none) = _
 rw [ask_str, rn_lookup, mem_rk h]; rfl
theorem sorted_rn {μ : Sto} {cs : List (Str × Int)} {ks : List Str} (h : sort2 (rnD cs) = some (ks.map .str)) : builtinM μ (.builtin "sorted") [.dict (rnD cs)] = some (.d (.list (ks.map .str)), μ) := by
 show (sort2 (rnD cs)).bind _ = _
 rw [h]; rfl
section
variable {F : Tm -> Tm -> Bool} {U : List Tm} {j k i : Nat} {rs : List (Str × Int)} {μ : Sto}
theorem or_ite {a b : Bool} {μ : Sto} : (if a = true then some (true, μ) else if b = true then some (true, μ) else some (false, μ)) = some (a || b, μ) := by cases a <;> cases b <;> rfl
theorem weight_is (hU : Uni U) {s t : Tm} (hs : s ∈ U) (ht : t ∈ U) {N : Nat}
   (hA3 : ∀ a ∈ s.kids, ∀ b ∈ t.kids, ∀ M, N <= M -> Asks F U 150 j k (some i) rs 102 M a b) (hF : F s t = weightB F rs s t) : ∀ M, N + 70 <= M -> Asks F U 150 j k (some i) rs 147 M s t := by
 intro M hM μ o
 obtain ⟨M, rfl⟩ : ∃ m, M = m + 70 := ⟨M - 70, (Nat.sub_add_cancel (Nat.le_trans (Nat.le_add_left _ _) hM)).symm⟩
 have hM : N <= M := Nat.le_of_add_le_add_right hM
 have hsh := hU.ht s hs
 have hth := hU.ht t ht
 rw [call_fn (show PP.fn 147 = some ⟨_, _, _⟩ from rfl) rfl, hF]
 show Says F U 150 j k (some i) rs μ _ _
 obtain ⟨ks, hks, hkl, hkm⟩ := sort_rn (cnt_keys t)
 have o1 : OS F U 150 j k (some i) rs (μ ++ deads (s.size + 1) ++ deads (t.size + 1)) := o.app.app
 have s1 : Same k μ (μ ++ deads (s.size + 1) ++ deads (t.size + 1)) := Same.app.trans Same.app
 generalize hμ1 : μ ++ deads (s.size + 1) ++ deads (t.size + 1) = μ1 at o1 s1
 simp -implicitDefEqProofs (disch := first | exact keq rfl | decide | exact Nat.le_trans (by decide) (Nat.le_add_left _ _) | exact Nat.le_add_right_of_le (Nat.le_trans (by decide) (Nat.le_add_left _ _)) | (simp only [List.map_cons, List.map_nil]; decide)) only [↓pureE_ok, ↓pureEs_ok, ↓d_evs, ↓d_tuple, b_as, ↓c_lc1, ↓c_lc2, ↓d_call, ↓p_call, ↓d_meth, ↓p_meth, ↓d_attr, ↓p_attr, ↓d_cmp, ↓p_cmp, ↓d_tcmp, ↓p_tcmp, ↓d_sl1, ↓p_sl1, ↓d_sl2, ↓p_sl2, ↓d_item, ↓p_item, ↓d_bin, ↓p_bin, ↓d_it, ↓p_it, ↓d_lazy, ↓p_lazy, ↓d_ret, ↓p_ret, ↓d_as, ↓p_as, b_call, b_m1, b_m2, b_at, b_v, b_d, b_c1, b_c2, b_c3, b_t1, b_t2, b_t3, ↓c_sl3, b_s, b_i, ↓c_itemC, b_i1, b_i2, b_b1, b_b2, ↓c_neg, ↓c_if, b_if, ↓c_dict, ↓c_list, b_l, ↓c_listm, b_lm, b_tu, ↓c_evs0, b_e1, b_e2, ↓c_bool, ↓c_bo1, ↓c_bo2, b_and, b_or, ↓c_lc, b_lc, b_lc2, b_ld, b_itl, b_itt, b_lz, b_lw, ↓c_itc, ↓c_not, b_not, ↓c_tbool, ↓c_or0, ↓c_and0, ↓c_or, ↓c_and, b_ao, b_aa, ↓c_tcall, b_tb, ↓c_ts0, ↓c_ts, b_ts, ↓exs_then, ↓c_exs0, b_next, b_ret, b_kret, ↓x_alc, ↓x_tt, b_tt, b_nx, ba_nil, ba_cons, ↓x_ti, b_ti, ↓x_store, b_st1, b_st2, b_st3, b_st4, ↓x_if, b_ifs, ↓x_for, b_for, ↓x_while, ↓x_expr, b_ex, b_fnr, b_fnn, ↓lvl_exz, ↓lvl_exs, call_bi, call_ty, freeze_d, ↓if_tt, ↓if_ff, if_true, if_false, Bool.not_true, Bool.not_false, bite, fun M μ hM => counted_at s M μ hsh hM, fun M μ hM => counted_at t M μ hth hM, hμ1, is_var_fn, cmp_tm (μ := μ1) (Nat.le_trans hsh (by decide)) (Nat.le_trans hth (by decide)), sorted_rn hks]
 refine says_if (fun h1 => says_here o1 s1 (if_pos h1)) fun h1 => says_if (fun h2 => says_here o1 s1 ((if_neg (nt h1)).trans (if_pos (of_decide_eq_true h2)))) fun h2 => ?_
 rw [show weightB F rs s t = _ from (if_neg (nt h1)).trans (if_neg (of_decide_eq_false h2))]
 clear hμ1 h1 h2 hF hks o
 rw [comp_pure PyData.str (fun x => [(("self" : Str), V.inst 150 j), (("s" : Str), V.d s.enc), (("t" : Str), V.d t.enc), (("mine" : Str), V.dict (rnD (cntOf s))), (("theirs" : Str), V.dict (rnD (cntOf t))), (("name" : Str), V.d (.str x))])
   (fun x => decide (rkOf (cntOf s) x < rkOf (cntOf t) x)) PyData.str ks (fun x hx => ⟨by rfl, ?_, fun _ => by rfl⟩)]
 rotate_left
 · simp -implicitDefEqProofs (disch := first | exact keq rfl | decide | exact Nat.le_trans (by decide) (Nat.le_add_left _ _) | exact Nat.le_add_right_of_le (Nat.le_trans (by decide) (Nat.le_add_left _ _)) | (simp only [List.map_cons, List.map_nil]; decide)) only [↓pureE_ok, ↓pureEs_ok, ↓d_evs, ↓d_tuple, b_as, ↓c_lc1, ↓c_lc2, ↓d_call, ↓p_call, ↓d_meth, ↓p_meth, ↓d_attr, ↓p_attr, ↓d_cmp, ↓p_cmp, ↓d_tcmp, ↓p_tcmp, ↓d_sl1, ↓p_sl1, ↓d_sl2, ↓p_sl2, ↓d_item, ↓p_item, ↓d_bin, ↓p_bin, ↓d_it, ↓p_it, ↓d_lazy, ↓p_lazy, ↓d_ret, ↓p_ret, ↓d_as, ↓p_as, b_call, b_m1, b_m2, b_at, b_v, b_d, b_c1, b_c2, b_c3, b_t1, b_t2, b_t3, ↓c_sl3, b_s, b_i, ↓c_itemC, b_i1, b_i2, b_b1, b_b2, ↓c_neg, ↓c_if, b_if, ↓c_dict, ↓c_list, b_l, ↓c_listm, b_lm, b_tu, ↓c_evs0, b_e1, b_e2, ↓c_bool, ↓c_bo1, ↓c_bo2, b_and, b_or, ↓c_lc, b_lc, b_lc2, b_ld, b_itl, b_itt, b_lz, b_lw, ↓c_itc, ↓c_not, b_not, ↓c_tbool, ↓c_or0, ↓c_and0, ↓c_or, ↓c_and, b_ao, b_aa, ↓c_tcall, b_tb, ↓c_ts0, ↓c_ts, b_ts, ↓exs_then, ↓c_exs0, b_next, b_ret, b_kret, ↓x_alc, ↓x_tt, b_tt, b_nx, ba_nil, ba_cons, ↓x_ti, b_ti, ↓x_store, b_st1, b_st2, b_st3, b_st4, ↓x_if, b_ifs, ↓x_for, b_for, ↓x_while, ↓x_expr, b_ex, b_fnr, b_fnn, ↓lvl_exz, ↓lvl_exs, call_bi, call_ty, freeze_d, ↓if_tt, ↓if_ff, if_true, if_false, Bool.not_true, Bool.not_false, item_rn ((hkm x).mp hx), rn_pre isrn_dict, rn_get isrn_dict, gt_int]
   cases decide (rkOf (cntOf s) x < rkOf (cntOf t) x) <;> rfl
 have hsm : smallLen ((ks.filter fun x => decide (rkOf (cntOf s) x < rkOf (cntOf t) x)).map PyData.str) = true := small_of (by rw [List.length_map]; exact Nat.le_trans (List.length_filter_le ..) (Nat.le_trans hkl (by decide)))
 have hne := ne_nil_str (μ := μ1) (l := ks.filter fun x => decide (rkOf (cntOf s) x < rkOf (cntOf t) x)) fun x hx => (cnt_keys t).2 x ((hkm x).mp (List.mem_filter.mp hx).1)
 rw [over_eq s t hkm, Bool.not_not] at hne
 clear hkm hkl
 generalize (ks.filter fun x => decide (rkOf (cntOf s) x < rkOf (cntOf t) x)).map PyData.str = zs at hsm hne
 have o2 : OS F U 150 j k (some i) rs (μ1 ++ deads s.size) := o1.app
 have o3 : OS F U 150 j k (some i) rs (μ1 ++ deads s.size ++ deads t.size) := o2.app
 have s3 : Same k μ (μ1 ++ deads s.size ++ deads t.size) := s1.trans (Same.app.trans Same.app)
 generalize hμ3 : μ1 ++ deads s.size ++ deads t.size = μ3 at o3 s3
 have o4 : OS F U 150 j k (some i) rs (μ3 ++ deads s.size) := o3.app
 have o5 : OS F U 150 j k (some i) rs (μ3 ++ deads s.size ++ deads t.size) := o4.app
 have s5 : Same k μ (μ3 ++ deads s.size ++ deads t.size) := s3.trans (Same.app.trans Same.app)
 obtain ⟨μ4, o6, s6, e6⟩ := first_fn hU hs ht hA3 (M + 65) (Nat.add_le_add hM (by decide)) o3
 simp -implicitDefEqProofs (disch := first | exact keq rfl | decide | exact Nat.le_trans (by decide) (Nat.le_add_left _ _) | exact Nat.le_add_right_of_le (Nat.le_trans (by decide) (Nat.le_add_left _ _)) | (simp only [List.map_cons, List.map_nil]; decide)) only [↓pureE_ok, ↓pureEs_ok, ↓d_evs, ↓d_tuple, b_as, ↓c_lc1, ↓c_lc2, ↓d_call, ↓p_call, ↓d_meth, ↓p_meth, ↓d_attr, ↓p_attr, ↓d_cmp, ↓p_cmp, ↓d_tcmp, ↓p_tcmp, ↓d_sl1, ↓p_sl1, ↓d_sl2, ↓p_sl2, ↓d_item, ↓p_item, ↓d_bin, ↓p_bin, ↓d_it, ↓p_it, ↓d_lazy, ↓p_lazy, ↓d_ret, ↓p_ret, ↓d_as, ↓p_as, b_call, b_m1, b_m2, b_at, b_v, b_d, b_c1, b_c2, b_c3, b_t1, b_t2, b_t3, ↓c_sl3, b_s, b_i, ↓c_itemC, b_i1, b_i2, b_b1, b_b2, ↓c_neg, ↓c_if, b_if, ↓c_dict, ↓c_list, b_l, ↓c_listm, b_lm, b_tu, ↓c_evs0, b_e1, b_e2, ↓c_bool, ↓c_bo1, ↓c_bo2, b_and, b_or, ↓c_lc, b_lc, b_lc2, b_ld, b_itl, b_itt, b_lz, b_lw, ↓c_itc, ↓c_not, b_not, ↓c_tbool, ↓c_or0, ↓c_and0, ↓c_or, ↓c_and, b_ao, b_aa, ↓c_tcall, b_tb, ↓c_ts0, ↓c_ts, b_ts, ↓exs_then, ↓c_exs0, b_next, b_ret, b_kret, ↓x_alc, ↓x_tt, b_tt, b_nx, ba_nil, ba_cons, ↓x_ti, b_ti, ↓x_store, b_st1, b_st2, b_st3, b_st4, ↓x_if, b_ifs, ↓x_for, b_for, ↓x_while, ↓x_expr, b_ex, b_fnr, b_fnn, ↓lvl_exz, ↓lvl_exs, call_bi, call_ty, freeze_d, ↓if_tt, ↓if_ff, if_true, if_false, Bool.not_true, Bool.not_false, bite, or_ite, hsm, hne, pre_weight o1, me_weight, fun M hM => weight_fn hU hs M hM o1, pre_weight o2, fun M hM => weight_fn hU ht M hM o2, hμ3, ne_nat, is_var_fn, pre_weight o3, fun M hM => weight_fn hU hs M hM o3, pre_weight o4,
   fun M hM => weight_fn hU ht M hM o4, gt_nat, at_ranks o3, place_fn _ isrn_dict, gt_tup, eq_tup, pre_first o3, me_first o3.cls, rest_enc, e6]
 refine says_if (fun h1 => says_here o1 s1 (if_pos h1)) fun h1 => ?_
 rw [if_neg (nt h1)]
 refine says_if (fun h2 => says_here o5 s5 (if_pos h2)) fun h2 => ?_
 rw [if_neg (nt h2)]
 cases gtK (hdK rs s) (hdK rs t) with
 | true => exact ⟨μ3, o3, s3, rfl⟩
 | false =>
 cases decide (hdK rs s = hdK rs t) with
 | false => exact ⟨μ3, o3, s3, rfl⟩
 | true => exact ⟨μ4, o6, s3.trans s6, rfl⟩
theorem weight_above (hU : Uni U) : ∀ (m : Nat) (s t : Tm), s ∈ U -> t ∈ U -> s.ht + t.ht <= m -> ∀ M, 90 * m + 90 <= M -> Asks (WR rs) U 150 j k (some i) rs 102 M s t := by
 intro m
 induction m with
 | zero =>
   intro s t hs ht hm
   refine fun M hM => above_of hU hs ht (fun M hM => weight_is (N := 0) hU hs ht ?_ (WR_eq rs s t) M hM) M (Nat.le_trans (by decide) hM)
   exact fun a ha => absurd (Nat.lt_of_lt_of_le (ht_kid ha) (Nat.le_trans (Nat.le_add_right _ _) hm)) (Nat.not_lt_zero _)
 | succ m ih =>
   intro s t hs ht hm
   refine fun M hM => above_of hU hs ht (fun M hM => weight_is (N := 90 * m + 90) hU hs ht ?_ (WR_eq rs s t) M hM) M (by omega)
   exact fun a ha b hb => ih a b (hU.kids s hs a ha) (hU.kids t ht b hb) (Nat.le_of_lt_succ (Nat.lt_of_lt_of_le (Nat.add_lt_add (ht_kid ha) (ht_kid hb)) hm))
end
end Mine.L
end
section
namespace Mine.L
open PySem
section
variable {F : Tm -> Tm -> Bool} {U : List Tm} {C : Addr} {j k : Nat} {h : Option Nat} {rs : List (Str × Int)} {μ : Sto}
noncomputable def turnD (F : Tm -> Tm -> Bool) (s t : Tm) : PyData := if F s t then .tuple [s.enc, t.enc] else if F t s then .tuple [t.enc, s.enc] else .none
theorem turned_fn {s t : Tm} {N : Nat} (h1 : ∀ M, N <= M -> Asks F U C j k h rs 102 M s t) (h2 : ∀ M, N <= M -> Asks F U C j k h rs 102 M t s) (M : Nat) (hM : N + 10 <= M) (o : OS F U C j k h rs μ) :
   ∃ μ', OS F U C j k h rs μ' /\ Same k μ μ' /\ (Lvl PP M).call (.con (.ref 159)) [.inst C j, .d s.enc, .d t.enc] μ = some (.d (turnD F s t), μ') := by
 obtain ⟨M, rfl⟩ : ∃ m, M = m + 10 := ⟨M - 10, by omega⟩
 rw [call_fn (show PP.fn 159 = some ⟨_, _, _⟩ from rfl) rfl, turnD]
 obtain ⟨μ1, o1, s1, e1⟩ := h1 (M + 6) (by omega) μ o
 cases hf : F s t with
 | true =>
   rw [hf] at e1
   refine ⟨μ1, o1, s1, ?_⟩
   simp -implicitDefEqProofs (disch := first | exact keq rfl | decide | exact Nat.le_trans (by decide) (Nat.le_add_left _ _) | exact Nat.le_add_right_of_le (Nat.le_trans (by decide) (Nat.le_add_left _ _)) | (simp only [List.map_cons, List.map_nil]; decide)) only [↓pureE_ok, ↓pureEs_ok, ↓d_evs, ↓d_tuple, b_as, ↓c_lc1, ↓c_lc2, ↓d_call, ↓p_call, ↓d_meth, ↓p_meth, ↓d_attr, ↓p_attr, ↓d_cmp, ↓p_cmp, ↓d_tcmp, ↓p_tcmp, ↓d_sl1, ↓p_sl1, ↓d_sl2, ↓p_sl2, ↓d_item, ↓p_item, ↓d_bin, ↓p_bin, ↓d_it, ↓p_it, ↓d_lazy, ↓p_lazy, ↓d_ret, ↓p_ret, ↓d_as, ↓p_as, b_call, b_m1, b_m2, b_at, b_v, b_d, b_c1, b_c2, b_c3, b_t1, b_t2, b_t3, ↓c_sl3, b_s, b_i, ↓c_itemC, b_i1, b_i2, b_b1, b_b2, ↓c_neg, ↓c_if, b_if, ↓c_dict, ↓c_list, b_l, ↓c_listm, b_lm, b_tu, ↓c_evs0, b_e1, b_e2, ↓c_bool, ↓c_bo1, ↓c_bo2, b_and, b_or, ↓c_lc, b_lc, b_lc2, b_ld, b_itl, b_itt, b_lz, b_lw, ↓c_itc, ↓c_not, b_not, ↓c_tbool, ↓c_or0, ↓c_and0, ↓c_or, ↓c_and, b_ao, b_aa, ↓c_tcall, b_tb, ↓c_ts0, ↓c_ts, b_ts, ↓exs_then, ↓c_exs0, b_next, b_ret, b_kret, ↓x_alc, ↓x_tt, b_tt, b_nx, ba_nil, ba_cons, ↓x_ti, b_ti, ↓x_store, b_st1, b_st2, b_st3, b_st4, ↓x_if, b_ifs, ↓x_for, b_for, ↓x_while, ↓x_expr, b_ex, b_fnr, b_fnn, ↓lvl_exz, ↓lvl_exs, call_bi, call_ty, freeze_d, ↓if_tt, ↓if_ff, if_true, if_false, Bool.not_true, Bool.not_false, pre_above o, me_above o.cls, e1]
 | false =>
   rw [hf] at e1
   obtain ⟨μ2, o2, s2, e2⟩ := h2 (M + 5) (by omega) μ1 o1
   refine ⟨μ2, o2, s1.trans s2, ?_⟩
   simp -implicitDefEqProofs (disch := first | exact keq rfl | decide | exact Nat.le_trans (by decide) (Nat.le_add_left _ _) | exact Nat.le_add_right_of_le (Nat.le_trans (by decide) (Nat.le_add_left _ _)) | (simp only [List.map_cons, List.map_nil]; decide)) only [↓pureE_ok, ↓pureEs_ok, ↓d_evs, ↓d_tuple, b_as, ↓c_lc1, ↓c_lc2, ↓d_call, ↓p_call, ↓d_meth, ↓p_meth, ↓d_attr, ↓p_attr, ↓d_cmp, ↓p_cmp, ↓d_tcmp, ↓p_tcmp, ↓d_sl1, ↓p_sl1, ↓d_sl2, ↓p_sl2, ↓d_item, ↓p_item, ↓d_bin, ↓p_bin, ↓d_it, ↓p_it, ↓d_lazy, ↓p_lazy, ↓d_ret, ↓p_ret, ↓d_as, ↓p_as, b_call, b_m1, b_m2, b_at, b_v, b_d, b_c1, b_c2, b_c3, b_t1, b_t2, b_t3, ↓c_sl3, b_s, b_i, ↓c_itemC, b_i1, b_i2, b_b1, b_b2, ↓c_neg, ↓c_if, b_if, ↓c_dict, ↓c_list, b_l, ↓c_listm, b_lm, b_tu, ↓c_evs0, b_e1, b_e2, ↓c_bool, ↓c_bo1, ↓c_bo2, b_and, b_or, ↓c_lc, b_lc, b_lc2, b_ld, b_itl, b_itt, b_lz, b_lw, ↓c_itc, ↓c_not, b_not, ↓c_tbool, ↓c_or0, ↓c_and0, ↓c_or, ↓c_and, b_ao, b_aa, ↓c_tcall, b_tb, ↓c_ts0, ↓c_ts, b_ts, ↓exs_then, ↓c_exs0, b_next, b_ret, b_kret, ↓x_alc, ↓x_tt, b_tt, b_nx, ba_nil, ba_cons, ↓x_ti, b_ti, ↓x_store, b_st1, b_st2, b_st3, b_st4, ↓x_if, b_ifs, ↓x_for, b_for, ↓x_while, ↓x_expr, b_ex, b_fnr, b_fnn, ↓lvl_exz, ↓lvl_exs, call_bi, call_ty, freeze_d, ↓if_tt, ↓if_ff, if_true, if_false, Bool.not_true, Bool.not_false, pre_above o, me_above o.cls, e1, pre_above o1, e2]
   cases F t s <;> rfl
end
noncomputable def IsNm (x : Str) : Prop := x = "a" \/ x = "b" \/ x = "h" \/ x = "?x" \/ x = "?y" \/ x = "f" \/ x = "fb"
theorem nm_isNm (t : Tm) : IsNm t.nm := by
 cases t with
 | leaf l => cases l <;> first | exact .inl rfl | exact .inr (.inl rfl) | exact .inr (.inr (.inl rfl)) | exact .inr (.inr (.inr (.inl rfl))) | exact .inr (.inr (.inr (.inr (.inl rfl))))
 | un u s => cases u <;> first | exact .inr (.inr (.inr (.inr (.inr (.inl rfl))))) | exact .inr (.inr (.inr (.inr (.inr (.inr rfl)))))
 | bin v s t => cases v <;> first | exact .inr (.inl rfl) | exact .inr (.inr (.inr (.inr (.inr (.inl rfl)))))
theorem names_isNm (t : Tm) : ∀ x ∈ namesOf t, IsNm x := by
 intro x hx
 rw [<- parts_names] at hx
 obtain ⟨p, _, rfl⟩ := List.mem_map.mp hx
 exact nm_isNm p.2
noncomputable def fstS (x : Str) : Str := ⟨#[x.cps.toList.headD 0]⟩
theorem item_fst {μ : Sto} {x : Str} (h : IsNm x) : itemM μ (.d (.str x)) (.d (.int 0)) = some (.d (.str (fstS x))) := by
 rcases h with rfl | rfl | rfl | rfl | rfl | rfl | rfl <;> rfl
theorem fst_q {μ : Sto} {x : Str} (h : IsNm x) : cmpM μ .Eq (.d (.str (fstS x))) (.d (.str "?")) = some (isVarN x) := by
 rcases h with rfl | rfl | rfl | rfl | rfl | rfl | rfl <;> (rw [cmp_str (by decide +kernel) (by decide +kernel)]; decide +kernel)
theorem names_len' (t : Tm) : (namesOf t).length = t.size := by rw [<- parts_names, List.length_map, parts_len]
theorem names_at (t : Tm) (M : Nat) (μ : Sto) (ht : t.ht <= 2) (hM : 30 <= M) : (Lvl PP M).call (.con (.ref 211)) [.d t.enc] μ = some (.d (.list ((namesOf t).map .str)), μ) :=
 lvl_at (P := fun M => (Lvl PP M).call (.con (.ref 211)) [.d t.enc] μ = some (.d (.list ((namesOf t).map .str)), μ)) (fun n => names_fn t n μ (Nat.le_succ_of_le ht)) (Nat.le_trans (Nat.add_le_add_right (Nat.mul_le_mul_left 10 ht) 10) hM : 10 * t.ht + 10 <= M)
theorem count_in (x : Str) (l : List Str) : Spec.countIn (.str x) (l.map .str) = (l.count x : Int) := by
 induction l with
 | nil => rfl
 | cons y l ih =>
   show (if (y == x) = true then (1 : Int) else 0) + Spec.countIn (.str x) (l.map .str) = _
   rw [ih, List.count_cons]
   cases (y == x) with
   | true => exact Int.add_comm 1 _
   | false => exact Int.zero_add _
theorem zip_like {l : List Tm} : ∀ {m : List Tm}, l.length = m.length -> (l.zip m).filter unlike = [] -> l = m := by
 induction l with
 | nil => exact fun h _ => (List.length_eq_zero_iff.mp h.symm).symm
 | cons a l ih =>
   intro m h hf
   cases m with
   | nil => cases h
   | cons b m =>
     rw [List.zip_cons_cons, List.filter_cons] at hf
     by_cases hab : a = b
     · rw [show unlike (a, b) = false from congrArg not (decide_eq_true hab)] at hf
       rw [hab, ih (Nat.succ.inj h) hf]
     · rw [show unlike (a, b) = true from congrArg not (decide_eq_false hab)] at hf; exact nomatch hf
theorem same_head {rs : List (Str × Int)} {s t : Tm} (h : hdK rs s = hdK rs t) (hk : s.kids = t.kids) : s = t := by
 have h := congrArg (fun z : HK => z.2.1) h
 apply enc_inj
 rw [Tm.enc_eq s, Tm.enc_eq t, show s.nm = t.nm from h, hk]
theorem nth0 {μ : Sto} {x : PyData} {l : List PyData} : itemM μ (.d (.list (x :: l))) (.d (.int 0)) = some (.d x) := by
 show (nthD (x :: l) 0).map V.d = _
 unfold nthD
 rw [if_pos (by simp)]; rfl
section
variable {rs : List (Str × Int)} {μ : Sto} {v : V}
theorem pre_count {l : List PyData} : preM PP μ (.d (.list l)) "count" = true := rfl
theorem me_count {l : List Str} {x : Str} {r : Rec} : callMeth PP r (.d (.list (l.map .str))) "count" [.d (.str x)] μ = some (.d (.int (l.count x)), μ) := by
 have : callMeth PP r (.d (.list (l.map .str))) "count" [.d (.str x)] μ = if (l.map PyData.str).all isStrD then some (.d (.int (Spec.countIn (.str x) (l.map .str))), μ) else none := rfl
 rw [this, if_pos (by rw [List.all_map, List.all_eq_true]; intro x _; rfl), count_in]
theorem len_lst {l : List PyData} (h : l.length <= 100000) : builtinM μ (.builtin "len") [.d (.list l)] = some (.d (.int l.length), μ) := by
 show (if smallLen l then _ else _) = _
 rw [small_of h]; rfl
theorem if_eq {α : Type} {c : Bool} {x y z : α} (h1 : c = true -> x = z) (h2 : c = false -> y = z) : (if c = true then x else y) = z := by
 cases c with
 | true => exact h1 rfl
 | false => exact h2 rfl
theorem b_eq {b c : Bool} {μ : Sto} (h : b = c) : some (V.d (.bool c), μ) = some (.d (.bool b), μ) := h ▸ rfl
theorem names_small (t : Tm) (h : t.ht <= 2) : ((namesOf t).map PyData.str).length <= 100000 := by
 rw [List.length_map, names_len']; exact Nat.le_trans (size_small (Nat.le_succ_of_le h)) (by decide)
theorem names_lens {t : Tm} (h : t.ht <= 2) {μ : Sto} : builtinM μ (.builtin "len") [.d (.list ((namesOf t).map .str))] = some (.d (.int t.size), μ) := by
 have q := len_lst (μ := μ) (names_small t h)
 rw [List.length_map, names_len'] at q
 exact q
theorem heavy_step (hr : IsRn μ v rs) {s t : Tm} {N : Nat} (ih : ∀ a ∈ s.kids, ∀ b ∈ t.kids, ∀ M, N <= M -> (Lvl PP M).call (.con (.ref 216)) [v, .d a.enc, .d b.enc] μ = some (.d (.bool (WR rs a b)), μ)) (hsh : s.ht <= 2) (hth : t.ht <= 2) (M : Nat) (hM : N + 60 <= M) :
   (Lvl PP M).call (.con (.ref 216)) [v, .d s.enc, .d t.enc] μ = some (.d (.bool (WR rs s t)), μ) := by
 obtain ⟨M, rfl⟩ : ∃ m, M = m + 60 := ⟨M - 60, (Nat.sub_add_cancel (Nat.le_trans (Nat.le_add_left _ _) hM)).symm⟩
 have hM : N <= M := Nat.le_of_add_le_add_right hM
 have h50 : ∀ {x : Tm}, x.ht <= 2 -> x.ht <= 50 := fun h => Nat.le_trans h (by decide)
 rw [call_fn (show PP.fn 216 = some ⟨_, _, _⟩ from rfl) rfl, WR_eq]
 have hnm := names_isNm t
 simp -implicitDefEqProofs (disch := first | exact keq rfl | decide | exact Nat.le_trans (by decide) (Nat.le_add_left _ _) | exact Nat.le_add_right_of_le (Nat.le_trans (by decide) (Nat.le_add_left _ _)) | (simp only [List.map_cons, List.map_nil]; decide)) only [↓pureE_ok, ↓pureEs_ok, ↓d_evs, ↓d_tuple, b_as, ↓c_lc1, ↓c_lc2, ↓d_call, ↓p_call, ↓d_meth, ↓p_meth, ↓d_attr, ↓p_attr, ↓d_cmp, ↓p_cmp, ↓d_tcmp, ↓p_tcmp, ↓d_sl1, ↓p_sl1, ↓d_sl2, ↓p_sl2, ↓d_item, ↓p_item, ↓d_bin, ↓p_bin, ↓d_it, ↓p_it, ↓d_lazy, ↓p_lazy, ↓d_ret, ↓p_ret, ↓d_as, ↓p_as, b_call, b_m1, b_m2, b_at, b_v, b_d, b_c1, b_c2, b_c3, b_t1, b_t2, b_t3, ↓c_sl3, b_s, b_i, ↓c_itemC, b_i1, b_i2, b_b1, b_b2, ↓c_neg, ↓c_if, b_if, ↓c_dict, ↓c_list, b_l, ↓c_listm, b_lm, b_tu, ↓c_evs0, b_e1, b_e2, ↓c_bool, ↓c_bo1, ↓c_bo2, b_and, b_or, ↓c_lc, b_lc, b_lc2, b_ld, b_itl, b_itt, b_lz, b_lw, ↓c_itc, ↓c_not, b_not, ↓c_tbool, ↓c_or0, ↓c_and0, ↓c_or, ↓c_and, b_ao, b_aa, ↓c_tcall, b_tb, ↓c_ts0, ↓c_ts, b_ts, ↓exs_then, ↓c_exs0, b_next, b_ret, b_kret, ↓x_alc, ↓x_tt, b_tt, b_nx, ba_nil, ba_cons, ↓x_ti, b_ti, ↓x_store, b_st1, b_st2, b_st3, b_st4, ↓x_if, b_ifs, ↓x_for, b_for, ↓x_while, ↓x_expr, b_ex, b_fnr, b_fnn, ↓lvl_exz, ↓lvl_exs, call_bi, call_ty, freeze_d, ↓if_tt, ↓if_ff, if_true, if_false, Bool.not_true, Bool.not_false, bite, fun M μ hM => names_at s M μ hsh hM, fun M μ hM => names_at t M μ hth hM, op_enc, item_fst (nm_isNm s), fst_q (nm_isNm s), cmp_tm (μ := μ) (h50 hsh) (h50 hth)]
 refine if_eq (fun h1 => b_eq (if_pos ((isVar_nm s).trans h1))) fun h1 => if_eq (fun h2 => b_eq ((if_neg (nt ((isVar_nm s).trans h1))).trans (if_pos (of_decide_eq_true h2)))) fun h2 => ?_
 rw [show weightB (WR rs) rs s t = _ from (if_neg (nt ((isVar_nm s).trans h1))).trans (if_neg (of_decide_eq_false h2))]
 clear h1
 rw [comp_pure PyData.str (fun x => [(("ranks" : Str), v), (("s" : Str), V.d s.enc), (("t" : Str), V.d t.enc), (("mine" : Str), V.d (.list ((namesOf s).map .str))), (("theirs" : Str), V.d (.list ((namesOf t).map .str))), (("name" : Str), V.d (.str x))])
   (fun x => isVarN x && decide ((namesOf s).count x < (namesOf t).count x)) PyData.str (namesOf t) (fun x hx => ⟨by rfl, ?_, fun _ => by rfl⟩)]
 rotate_left
 · simp -implicitDefEqProofs (disch := first | exact keq rfl | decide | exact Nat.le_trans (by decide) (Nat.le_add_left _ _) | exact Nat.le_add_right_of_le (Nat.le_trans (by decide) (Nat.le_add_left _ _)) | (simp only [List.map_cons, List.map_nil]; decide)) only [↓pureE_ok, ↓pureEs_ok, ↓d_evs, ↓d_tuple, b_as, ↓c_lc1, ↓c_lc2, ↓d_call, ↓p_call, ↓d_meth, ↓p_meth, ↓d_attr, ↓p_attr, ↓d_cmp, ↓p_cmp, ↓d_tcmp, ↓p_tcmp, ↓d_sl1, ↓p_sl1, ↓d_sl2, ↓p_sl2, ↓d_item, ↓p_item, ↓d_bin, ↓p_bin, ↓d_it, ↓p_it, ↓d_lazy, ↓p_lazy, ↓d_ret, ↓p_ret, ↓d_as, ↓p_as, b_call, b_m1, b_m2, b_at, b_v, b_d, b_c1, b_c2, b_c3, b_t1, b_t2, b_t3, ↓c_sl3, b_s, b_i, ↓c_itemC, b_i1, b_i2, b_b1, b_b2, ↓c_neg, ↓c_if, b_if, ↓c_dict, ↓c_list, b_l, ↓c_listm, b_lm, b_tu, ↓c_evs0, b_e1, b_e2, ↓c_bool, ↓c_bo1, ↓c_bo2, b_and, b_or, ↓c_lc, b_lc, b_lc2, b_ld, b_itl, b_itt, b_lz, b_lw, ↓c_itc, ↓c_not, b_not, ↓c_tbool, ↓c_or0, ↓c_and0, ↓c_or, ↓c_and, b_ao, b_aa, ↓c_tcall, b_tb, ↓c_ts0, ↓c_ts, b_ts, ↓exs_then, ↓c_exs0, b_next, b_ret, b_kret, ↓x_alc, ↓x_tt, b_tt, b_nx, ba_nil, ba_cons, ↓x_ti, b_ti, ↓x_store, b_st1, b_st2, b_st3, b_st4, ↓x_if, b_ifs, ↓x_for, b_for, ↓x_while, ↓x_expr, b_ex, b_fnr, b_fnn, ↓lvl_exz, ↓lvl_exs, call_bi, call_ty, freeze_d, ↓if_tt, ↓if_ff, if_true, if_false, Bool.not_true, Bool.not_false, item_fst (hnm x hx), fst_q (hnm x hx), pre_count, me_count, gt_nat]
   cases isVarN x <;> cases decide ((namesOf s).count x < (namesOf t).count x) <;> rfl
 have hov : ((namesOf t).filter fun x => isVarN x && decide ((namesOf s).count x < (namesOf t).count x)).isEmpty = !overB s t := by
   rw [Bool.eq_iff_iff, List.isEmpty_iff, List.filter_eq_nil_iff, Bool.not_eq_true', overB, List.any_eq_false]
 have hsm : smallLen (((namesOf t).filter fun x => isVarN x && decide ((namesOf s).count x < (namesOf t).count x)).map PyData.str) = true := small_of (by rw [List.length_map]; exact Nat.le_trans (List.length_filter_le ..) (List.length_map (as := namesOf t) PyData.str ▸ names_small t hth))
 have hne := ne_nil_str (μ := μ) (l := (namesOf t).filter fun x => isVarN x && decide ((namesOf s).count x < (namesOf t).count x)) fun x hx => (and_t (List.mem_filter.mp hx).2).1
 rw [hov, Bool.not_not] at hne
 clear hov hnm
 generalize ((namesOf t).filter fun x => isVarN x && decide ((namesOf s).count x < (namesOf t).count x)).map PyData.str = zs at hsm hne
 simp -implicitDefEqProofs (disch := first | exact keq rfl | decide | exact Nat.le_trans (by decide) (Nat.le_add_left _ _) | exact Nat.le_add_right_of_le (Nat.le_trans (by decide) (Nat.le_add_left _ _)) | (simp only [List.map_cons, List.map_nil]; decide)) only [↓pureE_ok, ↓pureEs_ok, ↓d_evs, ↓d_tuple, b_as, ↓c_lc1, ↓c_lc2, ↓d_call, ↓p_call, ↓d_meth, ↓p_meth, ↓d_attr, ↓p_attr, ↓d_cmp, ↓p_cmp, ↓d_tcmp, ↓p_tcmp, ↓d_sl1, ↓p_sl1, ↓d_sl2, ↓p_sl2, ↓d_item, ↓p_item, ↓d_bin, ↓p_bin, ↓d_it, ↓p_it, ↓d_lazy, ↓p_lazy, ↓d_ret, ↓p_ret, ↓d_as, ↓p_as, b_call, b_m1, b_m2, b_at, b_v, b_d, b_c1, b_c2, b_c3, b_t1, b_t2, b_t3, ↓c_sl3, b_s, b_i, ↓c_itemC, b_i1, b_i2, b_b1, b_b2, ↓c_neg, ↓c_if, b_if, ↓c_dict, ↓c_list, b_l, ↓c_listm, b_lm, b_tu, ↓c_evs0, b_e1, b_e2, ↓c_bool, ↓c_bo1, ↓c_bo2, b_and, b_or, ↓c_lc, b_lc, b_lc2, b_ld, b_itl, b_itt, b_lz, b_lw, ↓c_itc, ↓c_not, b_not, ↓c_tbool, ↓c_or0, ↓c_and0, ↓c_or, ↓c_and, b_ao, b_aa, ↓c_tcall, b_tb, ↓c_ts0, ↓c_ts, b_ts, ↓exs_then, ↓c_exs0, b_next, b_ret, b_kret, ↓x_alc, ↓x_tt, b_tt, b_nx, ba_nil, ba_cons, ↓x_ti, b_ti, ↓x_store, b_st1, b_st2, b_st3, b_st4, ↓x_if, b_ifs, ↓x_for, b_for, ↓x_while, ↓x_expr, b_ex, b_fnr, b_fnn, ↓lvl_exz, ↓lvl_exs, call_bi, call_ty, freeze_d, ↓if_tt, ↓if_ff, if_true, if_false, Bool.not_true, Bool.not_false, bite, or_ite, hsm, hne, names_lens hsh, names_lens hth, ne_nat, op_enc, item_fst (nm_isNm t), fst_q (nm_isNm t), gt_nat, head_fn _ hr, ne_lst, gt_lst, rest_enc, lazy_zip, zip_map]
 rw [<- isVar_nm t]
 refine if_eq (fun h1 => b_eq (if_pos h1)) fun h1 => ?_
 rw [if_neg (nt h1)]
 refine if_eq (fun h1 => b_eq (if_pos h1)) fun h1 => ?_
 rw [if_neg (nt h1)]
 by_cases hh : hdK rs s = hdK rs t
 · rw [decide_eq_true hh, hh, gtK_irr]
   show _ = some (V.d (.bool (fstD (WR rs) s.kids t.kids)), μ)
   rw [if_neg (by decide)]
   rw [comp_pure kp (fun p => [(("ranks" : Str), v), (("s" : Str), V.d s.enc), (("t" : Str), V.d t.enc), (("mine" : Str), V.d (.list ((namesOf s).map .str))), (("theirs" : Str), V.d (.list ((namesOf t).map .str))), (("kid" : Str), V.d p.1.enc), (("late" : Str), V.d p.2.enc)])
     unlike (fun p => .bool (WR rs p.1 p.2)) (s.kids.zip t.kids) (fun p hp => ⟨by rfl, ?_, fun _ => ?_⟩)]
   · have hsm : smallLen (((s.kids.zip t.kids).filter unlike).map fun p => PyData.bool (WR rs p.1 p.2)) = true :=
       small_of (by rw [List.length_map]; exact Nat.le_trans (List.length_filter_le ..) (by rw [List.length_zip]; exact Nat.le_trans (Nat.min_le_left _ _) (Nat.le_trans (kids_le s) (by decide))))
     cases hz : (s.kids.zip t.kids).filter unlike with
     | nil => exact absurd (same_head hh (zip_like (congrArg (fun z : HK => z.2.2) hh) hz)) (of_decide_eq_false h2)
     | cons p l =>
       have hf : (s.kids.zip t.kids).find? unlike = some p := by rw [<- List.head?_filter, hz]; rfl
       rw [hz] at hsm
       rw [fst_find, hf, List.map_cons]
       rw [List.map_cons] at hsm
       simp -implicitDefEqProofs (disch := first | exact keq rfl | decide | exact Nat.le_trans (by decide) (Nat.le_add_left _ _) | exact Nat.le_add_right_of_le (Nat.le_trans (by decide) (Nat.le_add_left _ _)) | (simp only [List.map_cons, List.map_nil]; decide)) only [↓pureE_ok, ↓pureEs_ok, ↓d_evs, ↓d_tuple, b_as, ↓c_lc1, ↓c_lc2, ↓d_call, ↓p_call, ↓d_meth, ↓p_meth, ↓d_attr, ↓p_attr, ↓d_cmp, ↓p_cmp, ↓d_tcmp, ↓p_tcmp, ↓d_sl1, ↓p_sl1, ↓d_sl2, ↓p_sl2, ↓d_item, ↓p_item, ↓d_bin, ↓p_bin, ↓d_it, ↓p_it, ↓d_lazy, ↓p_lazy, ↓d_ret, ↓p_ret, ↓d_as, ↓p_as, b_call, b_m1, b_m2, b_at, b_v, b_d, b_c1, b_c2, b_c3, b_t1, b_t2, b_t3, ↓c_sl3, b_s, b_i, ↓c_itemC, b_i1, b_i2, b_b1, b_b2, ↓c_neg, ↓c_if, b_if, ↓c_dict, ↓c_list, b_l, ↓c_listm, b_lm, b_tu, ↓c_evs0, b_e1, b_e2, ↓c_bool, ↓c_bo1, ↓c_bo2, b_and, b_or, ↓c_lc, b_lc, b_lc2, b_ld, b_itl, b_itt, b_lz, b_lw, ↓c_itc, ↓c_not, b_not, ↓c_tbool, ↓c_or0, ↓c_and0, ↓c_or, ↓c_and, b_ao, b_aa, ↓c_tcall, b_tb, ↓c_ts0, ↓c_ts, b_ts, ↓exs_then, ↓c_exs0, b_next, b_ret, b_kret, ↓x_alc, ↓x_tt, b_tt, b_nx, ba_nil, ba_cons, ↓x_ti, b_ti, ↓x_store, b_st1, b_st2, b_st3, b_st4, ↓x_if, b_ifs, ↓x_for, b_for, ↓x_while, ↓x_expr, b_ex, b_fnr, b_fnn, ↓lvl_exz, ↓lvl_exs, call_bi, call_ty, freeze_d, ↓if_tt, ↓if_ff, if_true, if_false, Bool.not_true, Bool.not_false, hsm, nth0]
   · simp -implicitDefEqProofs (disch := first | exact keq rfl | decide | exact Nat.le_trans (by decide) (Nat.le_add_left _ _) | exact Nat.le_add_right_of_le (Nat.le_trans (by decide) (Nat.le_add_left _ _)) | (simp only [List.map_cons, List.map_nil]; decide)) only [↓pureE_ok, ↓pureEs_ok, ↓d_evs, ↓d_tuple, b_as, ↓c_lc1, ↓c_lc2, ↓d_call, ↓p_call, ↓d_meth, ↓p_meth, ↓d_attr, ↓p_attr, ↓d_cmp, ↓p_cmp, ↓d_tcmp, ↓p_tcmp, ↓d_sl1, ↓p_sl1, ↓d_sl2, ↓p_sl2, ↓d_item, ↓p_item, ↓d_bin, ↓p_bin, ↓d_it, ↓p_it, ↓d_lazy, ↓p_lazy, ↓d_ret, ↓p_ret, ↓d_as, ↓p_as, b_call, b_m1, b_m2, b_at, b_v, b_d, b_c1, b_c2, b_c3, b_t1, b_t2, b_t3, ↓c_sl3, b_s, b_i, ↓c_itemC, b_i1, b_i2, b_b1, b_b2, ↓c_neg, ↓c_if, b_if, ↓c_dict, ↓c_list, b_l, ↓c_listm, b_lm, b_tu, ↓c_evs0, b_e1, b_e2, ↓c_bool, ↓c_bo1, ↓c_bo2, b_and, b_or, ↓c_lc, b_lc, b_lc2, b_ld, b_itl, b_itt, b_lz, b_lw, ↓c_itc, ↓c_not, b_not, ↓c_tbool, ↓c_or0, ↓c_and0, ↓c_or, ↓c_and, b_ao, b_aa, ↓c_tcall, b_tb, ↓c_ts0, ↓c_ts, b_ts, ↓exs_then, ↓c_exs0, b_next, b_ret, b_kret, ↓x_alc, ↓x_tt, b_tt, b_nx, ba_nil, ba_cons, ↓x_ti, b_ti, ↓x_store, b_st1, b_st2, b_st3, b_st4, ↓x_if, b_ifs, ↓x_for, b_for, ↓x_while, ↓x_expr, b_ex, b_fnr, b_fnn, ↓lvl_exz, ↓lvl_exs, call_bi, call_ty, freeze_d, ↓if_tt, ↓if_ff, if_true, if_false, Bool.not_true, Bool.not_false, cmp_tm_ne (μ := μ) (h50 (Nat.le_trans (Nat.le_of_lt (ht_kid (zip_mem hp).1)) hsh)) (h50 (Nat.le_trans (Nat.le_of_lt (ht_kid (zip_mem hp).2)) hth))]
     unfold unlike
     cases decide (p.1 = p.2) <;> rfl
   · simp -implicitDefEqProofs (disch := first | exact keq rfl | decide | exact Nat.le_trans (by decide) (Nat.le_add_left _ _) | exact Nat.le_add_right_of_le (Nat.le_trans (by decide) (Nat.le_add_left _ _)) | (simp only [List.map_cons, List.map_nil]; decide)) only [↓pureE_ok, ↓pureEs_ok, ↓d_evs, ↓d_tuple, b_as, ↓c_lc1, ↓c_lc2, ↓d_call, ↓p_call, ↓d_meth, ↓p_meth, ↓d_attr, ↓p_attr, ↓d_cmp, ↓p_cmp, ↓d_tcmp, ↓p_tcmp, ↓d_sl1, ↓p_sl1, ↓d_sl2, ↓p_sl2, ↓d_item, ↓p_item, ↓d_bin, ↓p_bin, ↓d_it, ↓p_it, ↓d_lazy, ↓p_lazy, ↓d_ret, ↓p_ret, ↓d_as, ↓p_as, b_call, b_m1, b_m2, b_at, b_v, b_d, b_c1, b_c2, b_c3, b_t1, b_t2, b_t3, ↓c_sl3, b_s, b_i, ↓c_itemC, b_i1, b_i2, b_b1, b_b2, ↓c_neg, ↓c_if, b_if, ↓c_dict, ↓c_list, b_l, ↓c_listm, b_lm, b_tu, ↓c_evs0, b_e1, b_e2, ↓c_bool, ↓c_bo1, ↓c_bo2, b_and, b_or, ↓c_lc, b_lc, b_lc2, b_ld, b_itl, b_itt, b_lz, b_lw, ↓c_itc, ↓c_not, b_not, ↓c_tbool, ↓c_or0, ↓c_and0, ↓c_or, ↓c_and, b_ao, b_aa, ↓c_tcall, b_tb, ↓c_ts0, ↓c_ts, b_ts, ↓exs_then, ↓c_exs0, b_next, b_ret, b_kret, ↓x_alc, ↓x_tt, b_tt, b_nx, ba_nil, ba_cons, ↓x_ti, b_ti, ↓x_store, b_st1, b_st2, b_st3, b_st4, ↓x_if, b_ifs, ↓x_for, b_for, ↓x_while, ↓x_expr, b_ex, b_fnr, b_fnn, ↓lvl_exz, ↓lvl_exs, call_bi, call_ty, freeze_d, ↓if_tt, ↓if_ff, if_true, if_false, Bool.not_true, Bool.not_false, ih p.1 (zip_mem hp).1 p.2 (zip_mem hp).2 (M + 55) (Nat.le_add_right_of_le hM)]
 · rw [decide_eq_false hh, Bool.false_and, Bool.or_false]; rfl
theorem heavy_fn (hr : IsRn μ v rs) : ∀ (m : Nat) (s t : Tm), s.ht <= m -> s.ht <= 2 -> t.ht <= 2 -> ∀ M, 60 * m + 60 <= M -> (Lvl PP M).call (.con (.ref 216)) [v, .d s.enc, .d t.enc] μ = some (.d (.bool (WR rs s t)), μ) := by
 intro m
 induction m with
 | zero => exact fun s t hm hs ht M hM => heavy_step (N := 0) hr (fun a ha => by have := ht_kid ha; omega) hs ht M hM
 | succ m ih => exact fun s t hm hs ht M hM => heavy_step (N := 60 * m + 60) hr (fun a ha b hb => ih a b (by have := ht_kid ha; omega) (by have := ht_kid ha; omega) (by have := ht_kid hb; omega)) hs ht M (by omega)
end
end Mine.L
end
section
namespace Mine.L
open PySem
noncomputable def cupL (cells : List Int) (a : Nat) : MO := .list [.list (cells.map .int), .int a]
structure CupOk (i b : Nat) (μ : Sto) : Prop where
 ex : ∃ cells a, μ[i]? = some (cupL cells a) /\ cells.length <= 40 /\ (∀ c ∈ cells, 0 <= c /\ c < 1000003) /\ a <= b
noncomputable def SameB (i : Nat) (μ μ' : Sto) : Prop := μ'.length = μ.length /\ ∀ j, j ≠ i -> μ'[j]? = μ[j]?
theorem SameB.refl {i μ} : SameB i μ μ := ⟨rfl, fun _ _ => rfl⟩
theorem SameB.trans {i μ μ' μ''} (a : SameB i μ μ') (b : SameB i μ' μ'') : SameB i μ μ'' := ⟨b.1.trans a.1, fun j h => (b.2 j h).trans (a.2 j h)⟩
section
variable {i b : Nat} {μ : Sto}
theorem nth_ok {l : List PyData} {n : Nat} {x : PyData} (hx : l[n]? = some x) (hn : n < 1000000) : nthD l n = some x := by
 unfold nthD
 rw [if_pos (Bool.and_eq_true_iff.mpr ⟨Bool.and_eq_true_iff.mpr ⟨decide_eq_true (Int.natCast_nonneg n), decide_eq_true (Int.ofNat_lt.mpr (List.getElem?_eq_some_iff.mp hx).1)⟩, decide_eq_true (show (n : Int) < (1000000 : Int) from Int.ofNat_lt.mpr hn)⟩), Int.toNat_natCast, hx]
theorem item_cup {l : List PyData} {n : Nat} {x : PyData} (h : μ[i]? = some (.list l)) (hx : l[n]? = some x) (hn : n < 1000000) : itemM μ (.obj i) (.d (.int n)) = some (.d x) := by
 show (μ[i]?).bind _ = _
 rw [h]
 exact congrArg (Option.map V.d) (nth_ok hx hn)
theorem item_lst {l : List PyData} {n : Nat} {x : PyData} (hx : l[n]? = some x) (hn : n < 1000000) : itemM μ (.d (.list l)) (.d (.int n)) = some (.d x) := congrArg (Option.map V.d) (nth_ok hx hn)
theorem item_tup {l : List PyData} {n : Nat} {x : PyData} (hx : l[n]? = some x) (hn : n < 1000000) : itemM μ (.d (.tuple l)) (.d (.int n)) = some (.d x) := congrArg (Option.map V.d) (nth_ok hx hn)
theorem store_cup {cells : List Int} {a c : Nat} (h : μ[i]? = some (cupL cells a)) : storeM μ (.obj i) (.d (.int 1)) (.d (.int c)) = some (μ.set i (cupL cells c)) := by
 show (μ[i]?).bind _ = _
 rw [h]; rfl
theorem small_n {a : Nat} (h : a <= 1000000000) : smallI a = true := small_i (Int.le_trans (by decide) (Int.natCast_nonneg a)) (Int.ofNat_le.mpr h)
theorem nadd {a b : Nat} (h1 : a <= 1000000000) (h2 : b <= 1000000000) : binD .Add (.int a) (.int b) = some (.int ((a + b : Nat) : Int)) := add_int (small_n h1) (small_n h2)
theorem mul_int {a b : Int} (h1 : smallI a = true) (h2 : smallI b = true) : binD .Mult (.int a) (.int b) = some (.int (a * b)) := by
 show (if _ then _ else _) = _
 rw [h1, h2]; rfl
theorem fdiv_int {a : Int} (h1 : smallI a = true) : binD .FloorDiv (.int a) (.int 3) = some (.int (a / 3)) := by
 show (if _ then _ else _) = _
 rw [h1]; rfl
theorem nmul {a b : Nat} (h1 : a <= 1000000000) (h2 : b <= 1000000000) : binD .Mult (.int a) (.int b) = some (.int ((a * b : Nat) : Int)) := mul_int (small_n h1) (small_n h2)
theorem nfdiv {a : Nat} (h1 : a <= 1000000000) : binD .FloorDiv (.int a) (.int 3) = some (.int ((a / 3 : Nat) : Int)) := fdiv_int (small_n h1)
theorem mod_int {a b : Int} (h1 : 0 < b) (h2 : smallI b = true) : binD .Mod (.int a) (.int b) = some (.int (a % b)) := by
 show (if _ then _ else _) = _
 rw [h2, decide_eq_true h1]; rfl
theorem lt_int {a b : Int} : cmpM μ .Lt (.d (.int a)) (.d (.int b)) = some (decide (a < b)) := rfl
theorem sip_fn (n : Nat) (hc : CupOk i b μ) (hb : b <= 100) (many : Nat) (hm : 0 < many) (hm' : many <= 100) :
   ∃ (r : Nat) (μ' : Sto), r < many /\ CupOk i (b + 1) μ' /\ SameB i μ μ' /\ (Lvl PP (n + 20)).call (.con (.ref 177)) [.obj i, .d (.int many)] μ = some (.d (.int r), μ') := by
 obtain ⟨cells, a, hi, hl, hcs, ha⟩ := hc.ex
 have ha1 : a <= 100 := Nat.le_trans ha hb
 have big : ∀ {x y : Nat}, x <= y -> y <= 1000000000 -> x <= 1000000000 := fun h k => Nat.le_trans h k
 have hi2 : (μ.set i (cupL cells (a + 1)))[i]? = some (cupL cells (a + 1)) := List.getElem?_set_self (List.getElem?_eq_some_iff.mp hi).1
 have c2 : CupOk i (b + 1) (μ.set i (cupL cells (a + 1))) := ⟨cells, a + 1, hi2, hl, hcs, Nat.succ_le_succ ha⟩
 have s2 : SameB i μ (μ.set i (cupL cells (a + 1))) := ⟨List.length_set, fun j h => List.getElem?_set_ne (Ne.symm h)⟩
 have g1 : itemM μ (.obj i) (.d (.int 1)) = some (.d (.int a)) := item_cup (n := 1) hi rfl (by decide)
 have g2 : itemM (μ.set i (cupL cells (a + 1))) (.obj i) (.d (.int 0)) = some (.d (.list (cells.map .int))) := item_cup (n := 0) hi2 rfl (by decide)
 have hst : storeM μ (.obj i) (.d (.int 1)) (.d (.int ((a + 1 : Nat) : Int))) = some (μ.set i (cupL cells (a + 1))) := store_cup (c := a + 1) hi
 have a1 : binD .Add (.int a) (.int 1) = some (.int ((a + 1 : Nat) : Int)) := nadd (b := 1) (big ha1 (by decide)) (by decide)
 have hlen := len_lst (μ := μ.set i (cupL cells (a + 1))) (l := cells.map .int) (by rw [List.length_map]; exact Nat.le_trans hl (by decide))
 rw [List.length_map] at hlen
 have hpos : (0 : Int) < many := Int.ofNat_lt.mpr hm
 have fin : ∀ x : Int, (Lvl PP (n + 20)).call (.con (.ref 177)) [.obj i, .d (.int many)] μ = some (.d (.int (x % many)), μ.set i (cupL cells (a + 1))) ->
     ∃ (r : Nat) (μ' : Sto), r < many /\ CupOk i (b + 1) μ' /\ SameB i μ μ' /\ (Lvl PP (n + 20)).call (.con (.ref 177)) [.obj i, .d (.int many)] μ = some (.d (.int r), μ') := by
   intro x hx
   have h1 := Int.emod_nonneg x (Int.ne_of_gt hpos)
   refine ⟨(x % many).toNat, _, (Int.toNat_lt h1).mpr (Int.emod_lt_of_pos x hpos), c2, s2, ?_⟩
   rw [hx, Int.toNat_of_nonneg h1]
 have hmod := fun x : Int => mod_int (a := x) (b := many) hpos (small_n (big hm' (by decide)))
 have hd := lt_int (μ := μ.set i (cupL cells (a + 1))) (a := a) (b := cells.length)
 by_cases hlt : a < cells.length
 · have g3 := item_lst (μ := μ.set i (cupL cells (a + 1))) (l := cells.map .int) (n := a) (x := .int cells[a]) (by rw [List.getElem?_map, List.getElem?_eq_getElem hlt]; rfl) (Nat.lt_of_le_of_lt ha1 (by decide))
   rw [decide_eq_true (Int.ofNat_lt.mpr hlt)] at hd
   refine fin cells[a] ?_
   rw [call_fn (show PP.fn 177 = some ⟨_, _, _⟩ from rfl) rfl]
   simp -implicitDefEqProofs (disch := first | exact keq rfl | decide | exact Nat.le_trans (by decide) (Nat.le_add_left _ _) | exact Nat.le_add_right_of_le (Nat.le_trans (by decide) (Nat.le_add_left _ _)) | (simp only [List.map_cons, List.map_nil]; decide)) only [↓pureE_ok, ↓pureEs_ok, ↓d_evs, ↓d_tuple, b_as, ↓c_lc1, ↓c_lc2, ↓d_call, ↓p_call, ↓d_meth, ↓p_meth, ↓d_attr, ↓p_attr, ↓d_cmp, ↓p_cmp, ↓d_tcmp, ↓p_tcmp, ↓d_sl1, ↓p_sl1, ↓d_sl2, ↓p_sl2, ↓d_item, ↓p_item, ↓d_bin, ↓p_bin, ↓d_it, ↓p_it, ↓d_lazy, ↓p_lazy, ↓d_ret, ↓p_ret, ↓d_as, ↓p_as, b_call, b_m1, b_m2, b_at, b_v, b_d, b_c1, b_c2, b_c3, b_t1, b_t2, b_t3, ↓c_sl3, b_s, b_i, ↓c_itemC, b_i1, b_i2, b_b1, b_b2, ↓c_neg, ↓c_if, b_if, ↓c_dict, ↓c_list, b_l, ↓c_listm, b_lm, b_tu, ↓c_evs0, b_e1, b_e2, ↓c_bool, ↓c_bo1, ↓c_bo2, b_and, b_or, ↓c_lc, b_lc, b_lc2, b_ld, b_itl, b_itt, b_lz, b_lw, ↓c_itc, ↓c_not, b_not, ↓c_tbool, ↓c_or0, ↓c_and0, ↓c_or, ↓c_and, b_ao, b_aa, ↓c_tcall, b_tb, ↓c_ts0, ↓c_ts, b_ts, ↓exs_then, ↓c_exs0, b_next, b_ret, b_kret, ↓x_alc, ↓x_tt, b_tt, b_nx, ba_nil, ba_cons, ↓x_ti, b_ti, ↓x_store, b_st1, b_st2, b_st3, b_st4, ↓x_if, b_ifs, ↓x_for, b_for, ↓x_while, ↓x_expr, b_ex, b_fnr, b_fnn, ↓lvl_exz, ↓lvl_exs, call_bi, call_ty, freeze_d, ↓if_tt, ↓if_ff, if_true, if_false, Bool.not_true, Bool.not_false, g1, a1, hst, g2, hlen, hd, g3, hmod]
 · rw [decide_eq_false fun h => hlt (Int.ofNat_lt.mp h)] at hd
   have b1 : 4 * a <= 400 := Nat.mul_le_mul_left 4 ha1
   have b2 : 4 * a * a <= 40000 := Nat.mul_le_mul b1 ha1
   have b3 : 11 * a <= 1100 := Nat.mul_le_mul_left 11 ha1
   have b4 : a / 3 <= 100 := Nat.le_trans (Nat.div_le_self _ _) ha1
   have b5 : 2 * cells.length <= 80 := Nat.mul_le_mul_left 2 hl
   have b6 := Nat.add_le_add b2 b3
   have b7 := Nat.add_le_add b6 b4
   have b8 := Nat.add_le_add b7 b5
   have m1 : binD .Mult (.int 4) (.int a) = some (.int ((4 * a : Nat) : Int)) := nmul (a := 4) (by decide) (big ha1 (by decide))
   have m2 := nmul (big b1 (by decide)) (big ha1 (by decide))
   have m3 : binD .Mult (.int 11) (.int a) = some (.int ((11 * a : Nat) : Int)) := nmul (a := 11) (by decide) (big ha1 (by decide))
   have a2 := nadd (big b2 (by decide)) (big b3 (by decide))
   have f1 := nfdiv (big ha1 (by decide))
   have a3 := nadd (big b6 (by decide)) (big b4 (by decide))
   have m4 : binD .Mult (.int 2) (.int cells.length) = some (.int ((2 * cells.length : Nat) : Int)) := nmul (a := 2) (by decide) (big hl (by decide))
   have a4 := nadd (big b7 (by decide)) (big b5 (by decide))
   have a5 : binD .Add (.int ((4 * a * a + 11 * a + a / 3 + 2 * cells.length : Nat) : Int)) (.int 7) = some (.int ((4 * a * a + 11 * a + a / 3 + 2 * cells.length + 7 : Nat) : Int)) := nadd (b := 7) (big b8 (by decide)) (by decide)
   refine fin ((4 * a * a + 11 * a + a / 3 + 2 * cells.length + 7 : Nat) : Int) ?_
   rw [call_fn (show PP.fn 177 = some ⟨_, _, _⟩ from rfl) rfl]
   simp -implicitDefEqProofs (disch := first | exact keq rfl | decide | exact Nat.le_trans (by decide) (Nat.le_add_left _ _) | exact Nat.le_add_right_of_le (Nat.le_trans (by decide) (Nat.le_add_left _ _)) | (simp only [List.map_cons, List.map_nil]; decide)) only [↓pureE_ok, ↓pureEs_ok, ↓d_evs, ↓d_tuple, b_as, ↓c_lc1, ↓c_lc2, ↓d_call, ↓p_call, ↓d_meth, ↓p_meth, ↓d_attr, ↓p_attr, ↓d_cmp, ↓p_cmp, ↓d_tcmp, ↓p_tcmp, ↓d_sl1, ↓p_sl1, ↓d_sl2, ↓p_sl2, ↓d_item, ↓p_item, ↓d_bin, ↓p_bin, ↓d_it, ↓p_it, ↓d_lazy, ↓p_lazy, ↓d_ret, ↓p_ret, ↓d_as, ↓p_as, b_call, b_m1, b_m2, b_at, b_v, b_d, b_c1, b_c2, b_c3, b_t1, b_t2, b_t3, ↓c_sl3, b_s, b_i, ↓c_itemC, b_i1, b_i2, b_b1, b_b2, ↓c_neg, ↓c_if, b_if, ↓c_dict, ↓c_list, b_l, ↓c_listm, b_lm, b_tu, ↓c_evs0, b_e1, b_e2, ↓c_bool, ↓c_bo1, ↓c_bo2, b_and, b_or, ↓c_lc, b_lc, b_lc2, b_ld, b_itl, b_itt, b_lz, b_lw, ↓c_itc, ↓c_not, b_not, ↓c_tbool, ↓c_or0, ↓c_and0, ↓c_or, ↓c_and, b_ao, b_aa, ↓c_tcall, b_tb, ↓c_ts0, ↓c_ts, b_ts, ↓exs_then, ↓c_exs0, b_next, b_ret, b_kret, ↓x_alc, ↓x_tt, b_tt, b_nx, ba_nil, ba_cons, ↓x_ti, b_ti, ↓x_store, b_st1, b_st2, b_st3, b_st4, ↓x_if, b_ifs, ↓x_for, b_for, ↓x_while, ↓x_expr, b_ex, b_fnr, b_fnn, ↓lvl_exz, ↓lvl_exs, call_bi, call_ty, freeze_d, ↓if_tt, ↓if_ff, if_true, if_false, Bool.not_true, Bool.not_false, g1, a1, hst, g2, hlen, hd, m1, m2, m3, a2, f1, a3, m4, a4, a5, hmod]
end
end Mine.L
end
section
namespace Mine.L
open PySem
noncomputable def headsL : List (Str × Nat) := [("a", 0), ("b", 0), ("h", 0), ("?x", 0), ("?y", 0), ("h", 0), ("b", 2), ("f", 1), ("f", 2), ("fb", 1)]
noncomputable def headE (p : Str × Nat) : PyData := .tuple [.str p.1, .int p.2]
theorem heads_eq : headsD = .tuple (headsL.map headE) := rfl
theorem item_head {μ : Sto} {r : Nat} {p : Str × Nat} (h : headsL[r]? = some p) : itemM μ (.d headsD) (.d (.int r)) = some (.d (headE p)) := by
 rw [heads_eq]
 have hr := (List.getElem?_eq_some_iff.mp h).1
 have hl : headsL.length = 10 := rfl
 exact item_tup (by rw [List.getElem?_map, h]; rfl) (Nat.lt_trans hr (hl ▸ by decide))
theorem build_leaf (r : Nat) (h : r < 5) : ∃ l : Lf, headsL[r]? = some (l.nm, 0) := by
 cases r with
 | zero => exact ⟨.a, rfl⟩
 | succ r => cases r with
   | zero => exact ⟨.b, rfl⟩
   | succ r => cases r with
     | zero => exact ⟨.h, rfl⟩
     | succ r => cases r with
       | zero => exact ⟨.x, rfl⟩
       | succ r => cases r with
         | zero => exact ⟨.y, rfl⟩
         | succ r => exact absurd h (Nat.not_lt_of_le (Nat.le_add_left 5 r))
noncomputable def Bld (p : Str × Nat) : Prop := p.2 <= 2 /\ ∀ ts : List Tm, ts.length = p.2 -> ∃ t : Tm, t.enc = .tuple (.str p.1 :: ts.map Tm.enc) /\ t.kids = ts
theorem bld0 (l : Lf) : Bld (l.nm, 0) := ⟨Nat.zero_le 2, fun ts h => ⟨.leaf l, by rw [List.length_eq_zero_iff.mp h]; exact ⟨rfl, rfl⟩⟩⟩
theorem bld1 (u : Un) : Bld (u.nm, 1) := ⟨Nat.le_succ 1, fun ts h => (List.length_eq_one_iff.mp h).elim fun a e => ⟨.un u a, e ▸ ⟨rfl, rfl⟩⟩⟩
theorem bld2 (v : Bi) : Bld (v.nm, 2) := ⟨Nat.le_refl 2, fun ts h => by
 cases ts with
 | nil => cases h
 | cons a ts => exact (List.length_eq_one_iff.mp (Nat.succ.inj h)).elim fun b e => ⟨.bin v a b, e ▸ ⟨rfl, rfl⟩⟩⟩
theorem build (r : Nat) (h : r < 10) : ∃ p, headsL[r]? = some p /\ Bld p := by
 have all : ∀ p ∈ headsL, Bld p := by
   intro p hp
   rcases List.mem_cons.mp hp with rfl | hp
   · exact bld0 .a
   rcases List.mem_cons.mp hp with rfl | hp
   · exact bld0 .b
   rcases List.mem_cons.mp hp with rfl | hp
   · exact bld0 .h
   rcases List.mem_cons.mp hp with rfl | hp
   · exact bld0 .x
   rcases List.mem_cons.mp hp with rfl | hp
   · exact bld0 .y
   rcases List.mem_cons.mp hp with rfl | hp
   · exact bld0 .h
   rcases List.mem_cons.mp hp with rfl | hp
   · exact bld2 .b
   rcases List.mem_cons.mp hp with rfl | hp
   · exact bld1 .f
   rcases List.mem_cons.mp hp with rfl | hp
   · exact bld2 .f
   rw [List.mem_singleton.mp hp]
   exact bld1 .fb
 exact ⟨_, List.getElem?_eq_getElem h, all _ (List.getElem_mem h)⟩
theorem comp_ex {α β : Type} {r : Rec} {fm : Fm} {elt tgt : Expr} (e : α -> PyData) (ρ : α -> Loc) (g : β -> PyData) (Q : β -> Prop) (I : Nat -> Sto -> Prop) (d : Nat) (l : List α) : ∀ (n : Nat) (μ : Sto), n + d * l.length <= 100 ->
   (∀ x ∈ l, bindT fm.sc false tgt (e x) fm.loc = some (ρ x) /\ ∀ n μ, n + d <= 100 -> I n μ -> ∃ y μ', Q y /\ I (n + d) μ' /\ r.ev ⟨fm.sc, ρ x⟩ elt μ = some (.d (g y), μ')) -> I n μ ->
   ∃ (ys : List β) (μ' : Sto), ys.length = l.length /\ (∀ y ∈ ys, Q y) /\ I (n + d * l.length) μ' /\ compM r fm elt tgt [] (l.map e) μ = some (ys.map g, μ') := by
 induction l with
 | nil => exact fun n μ _ _ hI => ⟨[], μ, rfl, (fun _ h => nomatch h), hI, rfl⟩
 | cons x l ih =>
   intro n μ hn h hI
   have en : n + d * (x :: l).length = n + d + d * l.length := by rw [List.length_cons, Nat.mul_succ, Nat.add_comm (d * l.length), Nat.add_assoc]
   rw [en] at hn ⊢
   have hx := h x (List.mem_cons_self ..)
   obtain ⟨y, μ1, q, I1, e1⟩ := hx.2 n μ (Nat.le_trans (Nat.le_add_right _ _) hn) hI
   obtain ⟨ys, μ2, hl, hq, I2, e2⟩ := ih (n + d) μ1 hn (fun y hy => h y (List.mem_cons_of_mem _ hy)) I1
   exact ⟨y :: ys, μ2, congrArg (· + 1) hl, fun z hz => (List.mem_cons.mp hz).elim (fun e => e ▸ q) (hq z), I2, cm_take hx.1 rfl e1 e2⟩
theorem comp_exZ {α β : Type} {r : Rec} {fm : Fm} {elt tgt : Expr} (e : α -> PyData) (ρ : α -> Loc) (g : β -> PyData) (Q : β -> Prop) (I : Nat -> Sto -> Prop) (d : Nat) (l : List α) (n : Nat) (μ : Sto) (Z : Option (List PyData × Sto)) (hZ : compM r fm elt tgt [] (l.map e) μ = Z) (hn : n + d * l.length <= 100) (hI : I n μ)
   (h : ∀ x ∈ l, bindT fm.sc false tgt (e x) fm.loc = some (ρ x) /\ ∀ n μ, n + d <= 100 -> I n μ -> ∃ y μ', Q y /\ I (n + d) μ' /\ r.ev ⟨fm.sc, ρ x⟩ elt μ = some (.d (g y), μ')) :
   ∃ (ys : List β) (μ' : Sto), ys.length = l.length /\ (∀ y ∈ ys, Q y) /\ I (n + d * l.length) μ' /\ Z = some (ys.map g, μ') := by
 obtain ⟨ys, μ', a, b, c, e⟩ := comp_ex e ρ g Q I d l n μ hn h hI
 exact ⟨ys, μ', a, b, c, hZ.symm.trans e⟩
noncomputable def rangeN : Nat -> Nat -> List Nat
 | 0, _ => []
 | n + 1, k => k :: rangeN n (k + 1)
theorem range_map (n : Nat) : ∀ k, rangeD n k = (rangeN n k).map fun (x : Nat) => PyData.int x := by
 induction n with
 | zero => exact fun _ => rfl
 | succ n ih => exact fun k => congrArg (PyData.int k :: ·) (ih (k + 1))
theorem range_len (n : Nat) : ∀ k, (rangeN n k).length = n := by
 induction n with
 | zero => exact fun _ => rfl
 | succ n ih => exact fun k => congrArg (· + 1) (ih (k + 1))
theorem lazy_range {n : Nat} (h : n <= 1000) : lazyM (.con (.type "range")) [.d (.int n)] = some (false, rangeD n 0) := by
 show (if _ then some (false, rangeD ((n : Int).toNat) 0) else _) = _
 rw [if_pos (Bool.and_eq_true_iff.mpr ⟨decide_eq_true (Int.natCast_nonneg n), decide_eq_true (show (n : Int) <= (1000 : Int) from Int.ofNat_le.mpr h)⟩), Int.toNat_natCast]
theorem ty_tuple {μ : Sto} {l : List PyData} (h : smallLen l = true) : builtinM μ (.type "tuple") [.d (.list l)] = some (.d (.tuple l), μ) := by
 show (if smallLen l then _ else _) = _
 rw [h]; rfl
theorem ht_of {t : Tm} {m : Nat} (h : ∀ k ∈ t.kids, k.ht <= m) : t.ht <= m + 1 := by
 cases t with
 | leaf l => exact Nat.zero_le _
 | un u s => exact Nat.succ_le_succ (h s (List.mem_cons_self ..))
 | bin v s t => exact Nat.succ_le_succ (Nat.max_le.mpr ⟨h s (List.mem_cons_self ..), h t (List.mem_cons_of_mem _ (List.mem_cons_self ..))⟩)
theorem bp_pair {sc : Scope} {a b : Str} {pa pb p : Pos} {k : Nat} {u v : PyData} {ρ : Loc} (h : (a != b && okN sc true a && okN sc true b) = true) : bindT sc true (.Tuple [.Name a pa, .Name b pb] k p) (.tuple [u, v]) ρ = some (setL b (.d v) (setL a (.d u) ρ)) := by
 show (if a != b && okN sc true a && okN sc true b && _ then _ else _) = _
 rw [h]; rfl
theorem comp_nil {r : Rec} {fm : Fm} {elt tgt : Expr} {ifs : List Expr} {μ : Sto} : compM r fm elt tgt ifs [] μ = some ([], μ) := rfl
noncomputable def PatOk (i : Nat) (N h c : Nat) : Prop := ∀ (b : Nat) (μ : Sto), CupOk i b μ -> b + c <= 100 -> ∀ M, N <= M -> ∃ (t : Tm) (μ' : Sto), t.ht <= h /\ CupOk i (b + c) μ' /\ SameB i μ μ' /\ (Lvl PP M).call (.con (.ref 182)) [.obj i, .d (.int h)] μ = some (.d t.enc, μ')
theorem pat0 {i : Nat} : PatOk i 40 0 1 := by
 intro b μ hc hb M hM
 obtain ⟨M, rfl⟩ : ∃ m, M = m + 40 := ⟨M - 40, by omega⟩
 obtain ⟨r, μ1, hr, c1, s1, e1⟩ := sip_fn (M + 15) hc (by omega) 5 (by decide) (by decide)
 have e1 : (Lvl PP (M + 35)).call (.con (.ref 177)) [.obj i, .d (.int 5)] μ = some (.d (.int r), μ1) := e1
 obtain ⟨l, hl⟩ := build_leaf r hr
 have hi := item_head (μ := μ1) hl
 have h0 : binD .Sub (.int 0) (.int 1) = some (.int (-1)) := rfl
 have g0 : cmpM μ .Gt (.d (.int (0 : Nat))) (.d (.int 0)) = some false := rfl
 have lr : lazyM (.con (.type "range")) [.d (.int (0 : Nat))] = some (false, []) := rfl
 have ad : binD .Add (.tuple [.str l.nm]) (.tuple []) = some (.tuple [.str l.nm]) := add_tup (Nat.le_of_ble_eq_true rfl)
 have tt : builtinM μ1 (.type "tuple") [.d (.list [])] = some (.d (.tuple []), μ1) := rfl
 refine ⟨.leaf l, μ1, Nat.le_refl _, c1, s1, ?_⟩
 rw [call_fn (show PP.fn 182 = some ⟨_, _, _⟩ from rfl) rfl]
 simp -implicitDefEqProofs (disch := first | exact keq rfl | decide | exact Nat.le_trans (by decide) (Nat.le_add_left _ _) | exact Nat.le_add_right_of_le (Nat.le_trans (by decide) (Nat.le_add_left _ _)) | (simp only [List.map_cons, List.map_nil]; decide)) only [↓pureE_ok, ↓pureEs_ok, ↓d_evs, ↓d_tuple, b_as, ↓c_lc1, ↓c_lc2, ↓d_call, ↓p_call, ↓d_meth, ↓p_meth, ↓d_attr, ↓p_attr, ↓d_cmp, ↓p_cmp, ↓d_tcmp, ↓p_tcmp, ↓d_sl1, ↓p_sl1, ↓d_sl2, ↓p_sl2, ↓d_item, ↓p_item, ↓d_bin, ↓p_bin, ↓d_it, ↓p_it, ↓d_lazy, ↓p_lazy, ↓d_ret, ↓p_ret, ↓d_as, ↓p_as, b_call, b_m1, b_m2, b_at, b_v, b_d, b_c1, b_c2, b_c3, b_t1, b_t2, b_t3, ↓c_sl3, b_s, b_i, ↓c_itemC, b_i1, b_i2, b_b1, b_b2, ↓c_neg, ↓c_if, b_if, ↓c_dict, ↓c_list, b_l, ↓c_listm, b_lm, b_tu, ↓c_evs0, b_e1, b_e2, ↓c_bool, ↓c_bo1, ↓c_bo2, b_and, b_or, ↓c_lc, b_lc, b_lc2, b_ld, b_itl, b_itt, b_lz, b_lw, ↓c_itc, ↓c_not, b_not, ↓c_tbool, ↓c_or0, ↓c_and0, ↓c_or, ↓c_and, b_ao, b_aa, ↓c_tcall, b_tb, ↓c_ts0, ↓c_ts, b_ts, ↓exs_then, ↓c_exs0, b_next, b_ret, b_kret, ↓x_alc, ↓x_tt, b_tt, b_nx, ba_nil, ba_cons, ↓x_ti, b_ti, ↓x_store, b_st1, b_st2, b_st3, b_st4, ↓x_if, b_ifs, ↓x_for, b_for, ↓x_while, ↓x_expr, b_ex, b_fnr, b_fnn, ↓lvl_exz, ↓lvl_exs, call_bi, call_ty, freeze_d, ↓if_tt, ↓if_ff, if_true, if_false, Bool.not_true, Bool.not_false, g0, e1, hi, headE, bp_pair, lr, comp_nil, ad, tt, show smallLen [] = true from rfl]
 rfl
theorem CupOk.mono {i b b' : Nat} {μ : Sto} (h : CupOk i b μ) (hb : b <= b') : CupOk i b' μ := by
 obtain ⟨cells, a, h1, h2, h3, h4⟩ := h.ex
 exact ⟨cells, a, h1, h2, h3, Nat.le_trans h4 hb⟩
theorem pat_step {i N h c : Nat} (hp : PatOk i N h c) (hh : h <= 10) : PatOk i (N + 40) (h + 1) (1 + 2 * c) := by
 intro b μ hc hb M hM
 obtain ⟨M, rfl⟩ : ∃ m, M = m + 40 := ⟨M - 40, by omega⟩
 obtain ⟨r, μ1, hr, c1, s1, e1⟩ := sip_fn (M + 15) hc (by omega) 10 (by decide) (by decide)
 have e1 : (Lvl PP (M + 35)).call (.con (.ref 177)) [.obj i, .d (.int 10)] μ = some (.d (.int r), μ1) := e1
 obtain ⟨p, hpr, hp2, hbd⟩ := build r hr
 have hi := item_head (μ := μ1) hpr
 have g0 : cmpM μ .Gt (.d (.int (h + 1 : Nat))) (.d (.int 0)) = some true := by rw [gt_int, decide_eq_true (by omega)]
 have lr := lazy_range (n := p.2) (by omega)
 rw [range_map] at lr
 have hsub : binD .Sub (.int (h + 1 : Nat)) (.int 1) = some (.int h) := by
   rw [sub_int (small_i (by omega) (by omega)) (by decide)]; congr 2; omega
 rw [call_fn (show PP.fn 182 = some ⟨_, _, _⟩ from rfl) rfl]
 simp -implicitDefEqProofs (disch := first | exact keq rfl | decide | exact Nat.le_trans (by decide) (Nat.le_add_left _ _) | exact Nat.le_add_right_of_le (Nat.le_trans (by decide) (Nat.le_add_left _ _)) | (simp only [List.map_cons, List.map_nil]; decide)) only [↓pureE_ok, ↓pureEs_ok, ↓d_evs, ↓d_tuple, b_as, ↓c_lc1, ↓c_lc2, ↓d_call, ↓p_call, ↓d_meth, ↓p_meth, ↓d_attr, ↓p_attr, ↓d_cmp, ↓p_cmp, ↓d_tcmp, ↓p_tcmp, ↓d_sl1, ↓p_sl1, ↓d_sl2, ↓p_sl2, ↓d_item, ↓p_item, ↓d_bin, ↓p_bin, ↓d_it, ↓p_it, ↓d_lazy, ↓p_lazy, ↓d_ret, ↓p_ret, ↓d_as, ↓p_as, b_call, b_m1, b_m2, b_at, b_v, b_d, b_c1, b_c2, b_c3, b_t1, b_t2, b_t3, ↓c_sl3, b_s, b_i, ↓c_itemC, b_i1, b_i2, b_b1, b_b2, ↓c_neg, ↓c_if, b_if, ↓c_dict, ↓c_list, b_l, ↓c_listm, b_lm, b_tu, ↓c_evs0, b_e1, b_e2, ↓c_bool, ↓c_bo1, ↓c_bo2, b_and, b_or, ↓c_lc, b_lc, b_lc2, b_ld, b_itl, b_itt, b_lz, b_lw, ↓c_itc, ↓c_not, b_not, ↓c_tbool, ↓c_or0, ↓c_and0, ↓c_or, ↓c_and, b_ao, b_aa, ↓c_tcall, b_tb, ↓c_ts0, ↓c_ts, b_ts, ↓exs_then, ↓c_exs0, b_next, b_ret, b_kret, ↓x_alc, ↓x_tt, b_tt, b_nx, ba_nil, ba_cons, ↓x_ti, b_ti, ↓x_store, b_st1, b_st2, b_st3, b_st4, ↓x_if, b_ifs, ↓x_for, b_for, ↓x_while, ↓x_expr, b_ex, b_fnr, b_fnn, ↓lvl_exz, ↓lvl_exs, call_bi, call_ty, freeze_d, ↓if_tt, ↓if_ff, if_true, if_false, Bool.not_true, Bool.not_false, g0, e1, hi, headE, bp_pair, lr]
 generalize hZ : compM _ _ _ _ _ _ _ = Z
 have hmul : c * (rangeN p.2 0).length <= c * 2 := Nat.mul_le_mul (Nat.le_refl c) (by rw [range_len]; exact hp2)
 have hq := comp_exZ (fun x : Nat => PyData.int x) (fun x => [(("cup" : Str), V.obj i), (("high" : Str), V.d (.int (h + 1 : Nat))), (("op" : Str), V.d (.str p.1)), (("many" : Str), V.d (.int p.2)), (("kid" : Str), V.d (.int x))]) Tm.enc (fun t : Tm => t.ht <= h)
   (fun n μ' => CupOk i n μ' /\ SameB i μ μ') c (rangeN p.2 0) (b + 1) μ1 Z hZ (by omega) ⟨c1, s1⟩ (fun x hx => ⟨by rfl, fun n μ2 hn ⟨c2, s2⟩ => ?_⟩)
 rotate_left
 · obtain ⟨t, μ3, ht, c3, s3, e3⟩ := hp n μ2 c2 hn (M + 34) (by omega)
   refine ⟨t, μ3, ht, ⟨c3, s2.trans s3⟩, ?_⟩
   rotate_left
   · simp -implicitDefEqProofs (disch := first | exact keq rfl | decide | exact Nat.le_trans (by decide) (Nat.le_add_left _ _) | exact Nat.le_add_right_of_le (Nat.le_trans (by decide) (Nat.le_add_left _ _)) | (simp only [List.map_cons, List.map_nil]; decide)) only [↓pureE_ok, ↓pureEs_ok, ↓d_evs, ↓d_tuple, b_as, ↓c_lc1, ↓c_lc2, ↓d_call, ↓p_call, ↓d_meth, ↓p_meth, ↓d_attr, ↓p_attr, ↓d_cmp, ↓p_cmp, ↓d_tcmp, ↓p_tcmp, ↓d_sl1, ↓p_sl1, ↓d_sl2, ↓p_sl2, ↓d_item, ↓p_item, ↓d_bin, ↓p_bin, ↓d_it, ↓p_it, ↓d_lazy, ↓p_lazy, ↓d_ret, ↓p_ret, ↓d_as, ↓p_as, b_call, b_m1, b_m2, b_at, b_v, b_d, b_c1, b_c2, b_c3, b_t1, b_t2, b_t3, ↓c_sl3, b_s, b_i, ↓c_itemC, b_i1, b_i2, b_b1, b_b2, ↓c_neg, ↓c_if, b_if, ↓c_dict, ↓c_list, b_l, ↓c_listm, b_lm, b_tu, ↓c_evs0, b_e1, b_e2, ↓c_bool, ↓c_bo1, ↓c_bo2, b_and, b_or, ↓c_lc, b_lc, b_lc2, b_ld, b_itl, b_itt, b_lz, b_lw, ↓c_itc, ↓c_not, b_not, ↓c_tbool, ↓c_or0, ↓c_and0, ↓c_or, ↓c_and, b_ao, b_aa, ↓c_tcall, b_tb, ↓c_ts0, ↓c_ts, b_ts, ↓exs_then, ↓c_exs0, b_next, b_ret, b_kret, ↓x_alc, ↓x_tt, b_tt, b_nx, ba_nil, ba_cons, ↓x_ti, b_ti, ↓x_store, b_st1, b_st2, b_st3, b_st4, ↓x_if, b_ifs, ↓x_for, b_for, ↓x_while, ↓x_expr, b_ex, b_fnr, b_fnn, ↓lvl_exz, ↓lvl_exs, call_bi, call_ty, freeze_d, ↓if_tt, ↓if_ff, if_true, if_false, Bool.not_true, Bool.not_false, hsub, e3]
 obtain ⟨ts, μ3, hl, hts, ⟨c3, s3⟩, e3⟩ := hq
 subst e3
 rw [range_len] at hl
 obtain ⟨t, ht, hk⟩ := hbd ts hl
 have hsm : smallLen (ts.map Tm.enc) = true := small_of (by rw [List.length_map]; omega)
 have ad : binD .Add (.tuple [.str p.1]) (.tuple (ts.map Tm.enc)) = some (.tuple (.str p.1 :: ts.map Tm.enc)) := add_tup (by rw [List.length_map]; simp only [List.length_cons, List.length_nil]; omega)
 refine ⟨t, μ3, ht_of fun k hkk => hts k (by rw [<- hk]; exact hkk), c3.mono (by omega), s3, ?_⟩
 simp -implicitDefEqProofs (disch := first | exact keq rfl | decide | exact Nat.le_trans (by decide) (Nat.le_add_left _ _) | exact Nat.le_add_right_of_le (Nat.le_trans (by decide) (Nat.le_add_left _ _)) | (simp only [List.map_cons, List.map_nil]; decide)) only [↓pureE_ok, ↓pureEs_ok, ↓d_evs, ↓d_tuple, b_as, ↓c_lc1, ↓c_lc2, ↓d_call, ↓p_call, ↓d_meth, ↓p_meth, ↓d_attr, ↓p_attr, ↓d_cmp, ↓p_cmp, ↓d_tcmp, ↓p_tcmp, ↓d_sl1, ↓p_sl1, ↓d_sl2, ↓p_sl2, ↓d_item, ↓p_item, ↓d_bin, ↓p_bin, ↓d_it, ↓p_it, ↓d_lazy, ↓p_lazy, ↓d_ret, ↓p_ret, ↓d_as, ↓p_as, b_call, b_m1, b_m2, b_at, b_v, b_d, b_c1, b_c2, b_c3, b_t1, b_t2, b_t3, ↓c_sl3, b_s, b_i, ↓c_itemC, b_i1, b_i2, b_b1, b_b2, ↓c_neg, ↓c_if, b_if, ↓c_dict, ↓c_list, b_l, ↓c_listm, b_lm, b_tu, ↓c_evs0, b_e1, b_e2, ↓c_bool, ↓c_bo1, ↓c_bo2, b_and, b_or, ↓c_lc, b_lc, b_lc2, b_ld, b_itl, b_itt, b_lz, b_lw, ↓c_itc, ↓c_not, b_not, ↓c_tbool, ↓c_or0, ↓c_and0, ↓c_or, ↓c_and, b_ao, b_aa, ↓c_tcall, b_tb, ↓c_ts0, ↓c_ts, b_ts, ↓exs_then, ↓c_exs0, b_next, b_ret, b_kret, ↓x_alc, ↓x_tt, b_tt, b_nx, ba_nil, ba_cons, ↓x_ti, b_ti, ↓x_store, b_st1, b_st2, b_st3, b_st4, ↓x_if, b_ifs, ↓x_for, b_for, ↓x_while, ↓x_expr, b_ex, b_fnr, b_fnn, ↓lvl_exz, ↓lvl_exs, call_bi, call_ty, freeze_d, ↓if_tt, ↓if_ff, if_true, if_false, Bool.not_true, Bool.not_false, hsm, ty_tuple hsm, ad]
 rw [ht]
end Mine.L
end
section
namespace Mine.L
open PySem
noncomputable def comesB (K : Tm -> Tm -> Bool) (rs : List (Str × Int)) (s t : Tm) : Bool :=
 if s.isVar then false else if s = t then false else if (s.kids.filter fun k => decide (k = t) || K k t).isEmpty then
   (if t.isVar then false else if (t.kids.filter fun k => !K s k).isEmpty then (if hdK rs s = hdK rs t then fstD K s.kids t.kids else gtK (hdK rs s) (hdK rs t)) else false)
 else true
section
variable {rs : List (Str × Int)} {μ : Sto} {v : V} {kd : V} {l : List ((Tm × Tm) × Bool)}
noncomputable def IsTab (μ : Sto) (kd : V) (l : List ((Tm × Tm) × Bool)) : Prop := dictOf? μ kd = some (tabD l)
theorem in_tab {p : Tm × Tm} (hk : IsTab μ kd l) (h1 : p.1.ht <= 3) (h2 : p.2.ht <= 3) : cmpM μ .In (.d (.tuple [p.1.enc, p.2.enc])) kd = some (l.lookup p).isSome := by
 have e : cmpM μ .In (.d (kp p)) kd = (dictOf? μ kd).bind (inTab (kp p)) := by
   cases kd with
   | d x => exact no_some hk
   | _ => rfl
 show cmpM μ .In (.d (kp p)) kd = _
 rw [e, hk]
 show (if askOk (kp p) (tabD l) then some (Spec.lookup (kp p) (tabD l)).isSome else none) = _
 rw [if_pos (ask_kp h1 h2 l), tab_lookup, Option.isSome_map]
theorem nin_tab {p : Tm × Tm} (hk : IsTab μ kd l) (h1 : p.1.ht <= 3) (h2 : p.2.ht <= 3) : cmpM μ .NotIn (.d (.tuple [p.1.enc, p.2.enc])) kd = some (!(l.lookup p).isSome) :=
 show notO (cmpM μ .In (.d (.tuple [p.1.enc, p.2.enc])) kd) = _ from (in_tab hk h1 h2).symm ▸ rfl
noncomputable def memB (l : List ((Tm × Tm) × Bool)) (s t : Tm) : Bool := (l.lookup (s, t)).isSome
theorem comes_fn (hr : IsRn μ v rs) (hk : IsTab μ kd l) {s t : Tm} (hsh : s.ht <= 2) (hth : t.ht <= 2) (M : Nat) (hM : 40 <= M) :
   (Lvl PP M).call (.con (.ref 199)) [v, kd, .d s.enc, .d t.enc] μ = some (.d (.bool (comesB (memB l) rs s t)), μ) := by
 obtain ⟨M, rfl⟩ : ∃ m, M = m + 40 := ⟨M - 40, (Nat.sub_add_cancel hM).symm⟩
 have L : ∀ x : Tm, x.ht <= 2 -> ∀ k ∈ x.kids, k.ht <= 2 := fun x hx k hk => Nat.le_trans (Nat.le_of_lt (ht_kid hk)) hx
 have h50 : ∀ {x : Tm}, x.ht <= 2 -> x.ht <= 50 := fun h => Nat.le_trans h (by decide)
 have hin : ∀ a b : Tm, a.ht <= 2 -> b.ht <= 2 -> cmpM μ .In (.d (.tuple [a.enc, b.enc])) kd = some (memB l a b) := fun a b ha hb => in_tab (p := (a, b)) hk (Nat.le_succ_of_le ha) (Nat.le_succ_of_le hb)
 have hnin : ∀ a b : Tm, a.ht <= 2 -> b.ht <= 2 -> cmpM μ .NotIn (.d (.tuple [a.enc, b.enc])) kd = some (!memB l a b) := fun a b ha hb => nin_tab (p := (a, b)) hk (Nat.le_succ_of_le ha) (Nat.le_succ_of_le hb)
 rw [call_fn (show PP.fn 199 = some ⟨_, _, _⟩ from rfl) rfl]
 simp -implicitDefEqProofs (disch := first | exact keq rfl | decide | exact Nat.le_trans (by decide) (Nat.le_add_left _ _) | exact Nat.le_add_right_of_le (Nat.le_trans (by decide) (Nat.le_add_left _ _)) | (simp only [List.map_cons, List.map_nil]; decide)) only [↓pureE_ok, ↓pureEs_ok, ↓d_evs, ↓d_tuple, b_as, ↓c_lc1, ↓c_lc2, ↓d_call, ↓p_call, ↓d_meth, ↓p_meth, ↓d_attr, ↓p_attr, ↓d_cmp, ↓p_cmp, ↓d_tcmp, ↓p_tcmp, ↓d_sl1, ↓p_sl1, ↓d_sl2, ↓p_sl2, ↓d_item, ↓p_item, ↓d_bin, ↓p_bin, ↓d_it, ↓p_it, ↓d_lazy, ↓p_lazy, ↓d_ret, ↓p_ret, ↓d_as, ↓p_as, b_call, b_m1, b_m2, b_at, b_v, b_d, b_c1, b_c2, b_c3, b_t1, b_t2, b_t3, ↓c_sl3, b_s, b_i, ↓c_itemC, b_i1, b_i2, b_b1, b_b2, ↓c_neg, ↓c_if, b_if, ↓c_dict, ↓c_list, b_l, ↓c_listm, b_lm, b_tu, ↓c_evs0, b_e1, b_e2, ↓c_bool, ↓c_bo1, ↓c_bo2, b_and, b_or, ↓c_lc, b_lc, b_lc2, b_ld, b_itl, b_itt, b_lz, b_lw, ↓c_itc, ↓c_not, b_not, ↓c_tbool, ↓c_or0, ↓c_and0, ↓c_or, ↓c_and, b_ao, b_aa, ↓c_tcall, b_tb, ↓c_ts0, ↓c_ts, b_ts, ↓exs_then, ↓c_exs0, b_next, b_ret, b_kret, ↓x_alc, ↓x_tt, b_tt, b_nx, ba_nil, ba_cons, ↓x_ti, b_ti, ↓x_store, b_st1, b_st2, b_st3, b_st4, ↓x_if, b_ifs, ↓x_for, b_for, ↓x_while, ↓x_expr, b_ex, b_fnr, b_fnn, ↓lvl_exz, ↓lvl_exs, call_bi, call_ty, freeze_d, ↓if_tt, ↓if_ff, if_true, if_false, Bool.not_true, Bool.not_false, bite, op_enc, item_fst (nm_isNm s), fst_q (nm_isNm s), cmp_tm (μ := μ) (h50 hsh) (h50 hth), rest_enc]
 rw [<- isVar_nm s]
 refine if_eq (fun h1 => b_eq (if_pos h1)) fun h1 => if_eq (fun h2 => b_eq ((if_neg (nt h1)).trans (if_pos (of_decide_eq_true h2)))) fun h2 => ?_
 rw [show comesB (memB l) rs s t = _ from (if_neg (nt h1)).trans (if_neg (of_decide_eq_false h2))]
 clear h1
 rw [comp_pure Tm.enc (fun x => [(("ranks" : Str), v), (("known" : Str), kd), (("s" : Str), V.d s.enc), (("t" : Str), V.d t.enc), (("kid" : Str), V.d x.enc)]) (fun x => decide (x = t) || memB l x t) Tm.enc s.kids (fun x hx => ⟨by rfl, ?_, fun _ => by rfl⟩)]
 rotate_left
 · have h1 := L s hsh x hx
   simp -implicitDefEqProofs (disch := first | exact keq rfl | decide | exact Nat.le_trans (by decide) (Nat.le_add_left _ _) | exact Nat.le_add_right_of_le (Nat.le_trans (by decide) (Nat.le_add_left _ _)) | (simp only [List.map_cons, List.map_nil]; decide)) only [↓pureE_ok, ↓pureEs_ok, ↓d_evs, ↓d_tuple, b_as, ↓c_lc1, ↓c_lc2, ↓d_call, ↓p_call, ↓d_meth, ↓p_meth, ↓d_attr, ↓p_attr, ↓d_cmp, ↓p_cmp, ↓d_tcmp, ↓p_tcmp, ↓d_sl1, ↓p_sl1, ↓d_sl2, ↓p_sl2, ↓d_item, ↓p_item, ↓d_bin, ↓p_bin, ↓d_it, ↓p_it, ↓d_lazy, ↓p_lazy, ↓d_ret, ↓p_ret, ↓d_as, ↓p_as, b_call, b_m1, b_m2, b_at, b_v, b_d, b_c1, b_c2, b_c3, b_t1, b_t2, b_t3, ↓c_sl3, b_s, b_i, ↓c_itemC, b_i1, b_i2, b_b1, b_b2, ↓c_neg, ↓c_if, b_if, ↓c_dict, ↓c_list, b_l, ↓c_listm, b_lm, b_tu, ↓c_evs0, b_e1, b_e2, ↓c_bool, ↓c_bo1, ↓c_bo2, b_and, b_or, ↓c_lc, b_lc, b_lc2, b_ld, b_itl, b_itt, b_lz, b_lw, ↓c_itc, ↓c_not, b_not, ↓c_tbool, ↓c_or0, ↓c_and0, ↓c_or, ↓c_and, b_ao, b_aa, ↓c_tcall, b_tb, ↓c_ts0, ↓c_ts, b_ts, ↓exs_then, ↓c_exs0, b_next, b_ret, b_kret, ↓x_alc, ↓x_tt, b_tt, b_nx, ba_nil, ba_cons, ↓x_ti, b_ti, ↓x_store, b_st1, b_st2, b_st3, b_st4, ↓x_if, b_ifs, ↓x_for, b_for, ↓x_while, ↓x_expr, b_ex, b_fnr, b_fnn, ↓lvl_exz, ↓lvl_exs, call_bi, call_ty, freeze_d, ↓if_tt, ↓if_ff, if_true, if_false, Bool.not_true, Bool.not_false, cmp_tm (μ := μ) (h50 h1) (h50 hth), hin x t h1 hth]
   cases decide (x = t) <;> cases memB l x t <;> rfl
 have hne := ne_nil (μ := μ) (l := s.kids.filter fun x => decide (x = t) || memB l x t) (fun x hx => h50 (L s hsh x (List.mem_filter.mp hx).1))
 simp -implicitDefEqProofs (disch := first | exact keq rfl | decide | exact Nat.le_trans (by decide) (Nat.le_add_left _ _) | exact Nat.le_add_right_of_le (Nat.le_trans (by decide) (Nat.le_add_left _ _)) | (simp only [List.map_cons, List.map_nil]; decide)) only [↓pureE_ok, ↓pureEs_ok, ↓d_evs, ↓d_tuple, b_as, ↓c_lc1, ↓c_lc2, ↓d_call, ↓p_call, ↓d_meth, ↓p_meth, ↓d_attr, ↓p_attr, ↓d_cmp, ↓p_cmp, ↓d_tcmp, ↓p_tcmp, ↓d_sl1, ↓p_sl1, ↓d_sl2, ↓p_sl2, ↓d_item, ↓p_item, ↓d_bin, ↓p_bin, ↓d_it, ↓p_it, ↓d_lazy, ↓p_lazy, ↓d_ret, ↓p_ret, ↓d_as, ↓p_as, b_call, b_m1, b_m2, b_at, b_v, b_d, b_c1, b_c2, b_c3, b_t1, b_t2, b_t3, ↓c_sl3, b_s, b_i, ↓c_itemC, b_i1, b_i2, b_b1, b_b2, ↓c_neg, ↓c_if, b_if, ↓c_dict, ↓c_list, b_l, ↓c_listm, b_lm, b_tu, ↓c_evs0, b_e1, b_e2, ↓c_bool, ↓c_bo1, ↓c_bo2, b_and, b_or, ↓c_lc, b_lc, b_lc2, b_ld, b_itl, b_itt, b_lz, b_lw, ↓c_itc, ↓c_not, b_not, ↓c_tbool, ↓c_or0, ↓c_and0, ↓c_or, ↓c_and, b_ao, b_aa, ↓c_tcall, b_tb, ↓c_ts0, ↓c_ts, b_ts, ↓exs_then, ↓c_exs0, b_next, b_ret, b_kret, ↓x_alc, ↓x_tt, b_tt, b_nx, ba_nil, ba_cons, ↓x_ti, b_ti, ↓x_store, b_st1, b_st2, b_st3, b_st4, ↓x_if, b_ifs, ↓x_for, b_for, ↓x_while, ↓x_expr, b_ex, b_fnr, b_fnn, ↓lvl_exz, ↓lvl_exs, call_bi, call_ty, freeze_d, ↓if_tt, ↓if_ff, if_true, if_false, Bool.not_true, Bool.not_false, bite, small_filter, hne, op_enc, item_fst (nm_isNm t), fst_q (nm_isNm t), rest_enc]
 clear hne
 generalize (s.kids.filter fun x => decide (x = t) || memB l x t).isEmpty = e1
 cases e1 with
 | false => rfl
 | true =>
 show _ = some (V.d (.bool (if t.isVar then false else _)), μ)
 rw [if_neg (by decide), <- isVar_nm t]
 refine if_eq (fun h1 => b_eq (if_pos h1)) fun h1 => ?_
 rw [if_neg (nt h1)]
 clear h1
 rw [comp_pure Tm.enc (fun x => [(("ranks" : Str), v), (("known" : Str), kd), (("s" : Str), V.d s.enc), (("t" : Str), V.d t.enc), (("kid" : Str), V.d x.enc)]) (fun x => !memB l s x) Tm.enc t.kids (fun x hx => ⟨by rfl, ?_, fun _ => by rfl⟩)]
 rotate_left
 · simp -implicitDefEqProofs (disch := first | exact keq rfl | decide | exact Nat.le_trans (by decide) (Nat.le_add_left _ _) | exact Nat.le_add_right_of_le (Nat.le_trans (by decide) (Nat.le_add_left _ _)) | (simp only [List.map_cons, List.map_nil]; decide)) only [↓pureE_ok, ↓pureEs_ok, ↓d_evs, ↓d_tuple, b_as, ↓c_lc1, ↓c_lc2, ↓d_call, ↓p_call, ↓d_meth, ↓p_meth, ↓d_attr, ↓p_attr, ↓d_cmp, ↓p_cmp, ↓d_tcmp, ↓p_tcmp, ↓d_sl1, ↓p_sl1, ↓d_sl2, ↓p_sl2, ↓d_item, ↓p_item, ↓d_bin, ↓p_bin, ↓d_it, ↓p_it, ↓d_lazy, ↓p_lazy, ↓d_ret, ↓p_ret, ↓d_as, ↓p_as, b_call, b_m1, b_m2, b_at, b_v, b_d, b_c1, b_c2, b_c3, b_t1, b_t2, b_t3, ↓c_sl3, b_s, b_i, ↓c_itemC, b_i1, b_i2, b_b1, b_b2, ↓c_neg, ↓c_if, b_if, ↓c_dict, ↓c_list, b_l, ↓c_listm, b_lm, b_tu, ↓c_evs0, b_e1, b_e2, ↓c_bool, ↓c_bo1, ↓c_bo2, b_and, b_or, ↓c_lc, b_lc, b_lc2, b_ld, b_itl, b_itt, b_lz, b_lw, ↓c_itc, ↓c_not, b_not, ↓c_tbool, ↓c_or0, ↓c_and0, ↓c_or, ↓c_and, b_ao, b_aa, ↓c_tcall, b_tb, ↓c_ts0, ↓c_ts, b_ts, ↓exs_then, ↓c_exs0, b_next, b_ret, b_kret, ↓x_alc, ↓x_tt, b_tt, b_nx, ba_nil, ba_cons, ↓x_ti, b_ti, ↓x_store, b_st1, b_st2, b_st3, b_st4, ↓x_if, b_ifs, ↓x_for, b_for, ↓x_while, ↓x_expr, b_ex, b_fnr, b_fnn, ↓lvl_exz, ↓lvl_exs, call_bi, call_ty, freeze_d, ↓if_tt, ↓if_ff, if_true, if_false, Bool.not_true, Bool.not_false, hnin s x hsh (L t hth x hx)]
   cases memB l s x <;> rfl
 have hne := ne_nil (μ := μ) (l := t.kids.filter fun x => !memB l s x) (fun x hx => h50 (L t hth x (List.mem_filter.mp hx).1))
 simp -implicitDefEqProofs (disch := first | exact keq rfl | decide | exact Nat.le_trans (by decide) (Nat.le_add_left _ _) | exact Nat.le_add_right_of_le (Nat.le_trans (by decide) (Nat.le_add_left _ _)) | (simp only [List.map_cons, List.map_nil]; decide)) only [↓pureE_ok, ↓pureEs_ok, ↓d_evs, ↓d_tuple, b_as, ↓c_lc1, ↓c_lc2, ↓d_call, ↓p_call, ↓d_meth, ↓p_meth, ↓d_attr, ↓p_attr, ↓d_cmp, ↓p_cmp, ↓d_tcmp, ↓p_tcmp, ↓d_sl1, ↓p_sl1, ↓d_sl2, ↓p_sl2, ↓d_item, ↓p_item, ↓d_bin, ↓p_bin, ↓d_it, ↓p_it, ↓d_lazy, ↓p_lazy, ↓d_ret, ↓p_ret, ↓d_as, ↓p_as, b_call, b_m1, b_m2, b_at, b_v, b_d, b_c1, b_c2, b_c3, b_t1, b_t2, b_t3, ↓c_sl3, b_s, b_i, ↓c_itemC, b_i1, b_i2, b_b1, b_b2, ↓c_neg, ↓c_if, b_if, ↓c_dict, ↓c_list, b_l, ↓c_listm, b_lm, b_tu, ↓c_evs0, b_e1, b_e2, ↓c_bool, ↓c_bo1, ↓c_bo2, b_and, b_or, ↓c_lc, b_lc, b_lc2, b_ld, b_itl, b_itt, b_lz, b_lw, ↓c_itc, ↓c_not, b_not, ↓c_tbool, ↓c_or0, ↓c_and0, ↓c_or, ↓c_and, b_ao, b_aa, ↓c_tcall, b_tb, ↓c_ts0, ↓c_ts, b_ts, ↓exs_then, ↓c_exs0, b_next, b_ret, b_kret, ↓x_alc, ↓x_tt, b_tt, b_nx, ba_nil, ba_cons, ↓x_ti, b_ti, ↓x_store, b_st1, b_st2, b_st3, b_st4, ↓x_if, b_ifs, ↓x_for, b_for, ↓x_while, ↓x_expr, b_ex, b_fnr, b_fnn, ↓lvl_exz, ↓lvl_exs, call_bi, call_ty, freeze_d, ↓if_tt, ↓if_ff, if_true, if_false, Bool.not_true, Bool.not_false, bite, small_filter, hne, head_fn _ hr, ne_lst, gt_lst, rest_enc, lazy_zip, zip_map]
 clear hne
 generalize (t.kids.filter fun x => !memB l s x).isEmpty = e1
 cases e1 with
 | false => rfl
 | true =>
 show _ = some (V.d (.bool (if hdK rs s = hdK rs t then _ else _)), μ)
 rw [if_neg (by decide)]
 by_cases hh : hdK rs s = hdK rs t
 · rw [decide_eq_true hh, if_pos hh, if_neg (by decide)]
   rw [comp_pure kp (fun p => [(("ranks" : Str), v), (("known" : Str), kd), (("s" : Str), V.d s.enc), (("t" : Str), V.d t.enc), (("kid" : Str), V.d p.1.enc), (("late" : Str), V.d p.2.enc)])
     unlike (fun p => .bool (memB l p.1 p.2)) (s.kids.zip t.kids) (fun p hp => ⟨by rfl, ?_, fun _ => ?_⟩)]
   · have hsm : smallLen (((s.kids.zip t.kids).filter unlike).map fun p => PyData.bool (memB l p.1 p.2)) = true :=
       small_of (by rw [List.length_map]; exact Nat.le_trans (List.length_filter_le ..) (by rw [List.length_zip]; exact Nat.le_trans (Nat.min_le_left _ _) (Nat.le_trans (kids_le s) (by decide))))
     cases hz : (s.kids.zip t.kids).filter unlike with
     | nil => exact absurd (same_head hh (zip_like (congrArg (fun z : HK => z.2.2) hh) hz)) (of_decide_eq_false h2)
     | cons p r =>
       have hf : (s.kids.zip t.kids).find? unlike = some p := by rw [<- List.head?_filter, hz]; rfl
       rw [hz] at hsm
       rw [fst_find, hf, List.map_cons]
       rw [List.map_cons] at hsm
       simp -implicitDefEqProofs (disch := first | exact keq rfl | decide | exact Nat.le_trans (by decide) (Nat.le_add_left _ _) | exact Nat.le_add_right_of_le (Nat.le_trans (by decide) (Nat.le_add_left _ _)) | (simp only [List.map_cons, List.map_nil]; decide)) only [↓pureE_ok, ↓pureEs_ok, ↓d_evs, ↓d_tuple, b_as, ↓c_lc1, ↓c_lc2, ↓d_call, ↓p_call, ↓d_meth, ↓p_meth, ↓d_attr, ↓p_attr, ↓d_cmp, ↓p_cmp, ↓d_tcmp, ↓p_tcmp, ↓d_sl1, ↓p_sl1, ↓d_sl2, ↓p_sl2, ↓d_item, ↓p_item, ↓d_bin, ↓p_bin, ↓d_it, ↓p_it, ↓d_lazy, ↓p_lazy, ↓d_ret, ↓p_ret, ↓d_as, ↓p_as, b_call, b_m1, b_m2, b_at, b_v, b_d, b_c1, b_c2, b_c3, b_t1, b_t2, b_t3, ↓c_sl3, b_s, b_i, ↓c_itemC, b_i1, b_i2, b_b1, b_b2, ↓c_neg, ↓c_if, b_if, ↓c_dict, ↓c_list, b_l, ↓c_listm, b_lm, b_tu, ↓c_evs0, b_e1, b_e2, ↓c_bool, ↓c_bo1, ↓c_bo2, b_and, b_or, ↓c_lc, b_lc, b_lc2, b_ld, b_itl, b_itt, b_lz, b_lw, ↓c_itc, ↓c_not, b_not, ↓c_tbool, ↓c_or0, ↓c_and0, ↓c_or, ↓c_and, b_ao, b_aa, ↓c_tcall, b_tb, ↓c_ts0, ↓c_ts, b_ts, ↓exs_then, ↓c_exs0, b_next, b_ret, b_kret, ↓x_alc, ↓x_tt, b_tt, b_nx, ba_nil, ba_cons, ↓x_ti, b_ti, ↓x_store, b_st1, b_st2, b_st3, b_st4, ↓x_if, b_ifs, ↓x_for, b_for, ↓x_while, ↓x_expr, b_ex, b_fnr, b_fnn, ↓lvl_exz, ↓lvl_exs, call_bi, call_ty, freeze_d, ↓if_tt, ↓if_ff, if_true, if_false, Bool.not_true, Bool.not_false, hsm, nth0]
   · simp -implicitDefEqProofs (disch := first | exact keq rfl | decide | exact Nat.le_trans (by decide) (Nat.le_add_left _ _) | exact Nat.le_add_right_of_le (Nat.le_trans (by decide) (Nat.le_add_left _ _)) | (simp only [List.map_cons, List.map_nil]; decide)) only [↓pureE_ok, ↓pureEs_ok, ↓d_evs, ↓d_tuple, b_as, ↓c_lc1, ↓c_lc2, ↓d_call, ↓p_call, ↓d_meth, ↓p_meth, ↓d_attr, ↓p_attr, ↓d_cmp, ↓p_cmp, ↓d_tcmp, ↓p_tcmp, ↓d_sl1, ↓p_sl1, ↓d_sl2, ↓p_sl2, ↓d_item, ↓p_item, ↓d_bin, ↓p_bin, ↓d_it, ↓p_it, ↓d_lazy, ↓p_lazy, ↓d_ret, ↓p_ret, ↓d_as, ↓p_as, b_call, b_m1, b_m2, b_at, b_v, b_d, b_c1, b_c2, b_c3, b_t1, b_t2, b_t3, ↓c_sl3, b_s, b_i, ↓c_itemC, b_i1, b_i2, b_b1, b_b2, ↓c_neg, ↓c_if, b_if, ↓c_dict, ↓c_list, b_l, ↓c_listm, b_lm, b_tu, ↓c_evs0, b_e1, b_e2, ↓c_bool, ↓c_bo1, ↓c_bo2, b_and, b_or, ↓c_lc, b_lc, b_lc2, b_ld, b_itl, b_itt, b_lz, b_lw, ↓c_itc, ↓c_not, b_not, ↓c_tbool, ↓c_or0, ↓c_and0, ↓c_or, ↓c_and, b_ao, b_aa, ↓c_tcall, b_tb, ↓c_ts0, ↓c_ts, b_ts, ↓exs_then, ↓c_exs0, b_next, b_ret, b_kret, ↓x_alc, ↓x_tt, b_tt, b_nx, ba_nil, ba_cons, ↓x_ti, b_ti, ↓x_store, b_st1, b_st2, b_st3, b_st4, ↓x_if, b_ifs, ↓x_for, b_for, ↓x_while, ↓x_expr, b_ex, b_fnr, b_fnn, ↓lvl_exz, ↓lvl_exs, call_bi, call_ty, freeze_d, ↓if_tt, ↓if_ff, if_true, if_false, Bool.not_true, Bool.not_false, cmp_tm_ne (μ := μ) (h50 (L s hsh _ (zip_mem hp).1)) (h50 (L t hth _ (zip_mem hp).2))]
     unfold unlike
     cases decide (p.1 = p.2) <;> rfl
   · simp -implicitDefEqProofs (disch := first | exact keq rfl | decide | exact Nat.le_trans (by decide) (Nat.le_add_left _ _) | exact Nat.le_add_right_of_le (Nat.le_trans (by decide) (Nat.le_add_left _ _)) | (simp only [List.map_cons, List.map_nil]; decide)) only [↓pureE_ok, ↓pureEs_ok, ↓d_evs, ↓d_tuple, b_as, ↓c_lc1, ↓c_lc2, ↓d_call, ↓p_call, ↓d_meth, ↓p_meth, ↓d_attr, ↓p_attr, ↓d_cmp, ↓p_cmp, ↓d_tcmp, ↓p_tcmp, ↓d_sl1, ↓p_sl1, ↓d_sl2, ↓p_sl2, ↓d_item, ↓p_item, ↓d_bin, ↓p_bin, ↓d_it, ↓p_it, ↓d_lazy, ↓p_lazy, ↓d_ret, ↓p_ret, ↓d_as, ↓p_as, b_call, b_m1, b_m2, b_at, b_v, b_d, b_c1, b_c2, b_c3, b_t1, b_t2, b_t3, ↓c_sl3, b_s, b_i, ↓c_itemC, b_i1, b_i2, b_b1, b_b2, ↓c_neg, ↓c_if, b_if, ↓c_dict, ↓c_list, b_l, ↓c_listm, b_lm, b_tu, ↓c_evs0, b_e1, b_e2, ↓c_bool, ↓c_bo1, ↓c_bo2, b_and, b_or, ↓c_lc, b_lc, b_lc2, b_ld, b_itl, b_itt, b_lz, b_lw, ↓c_itc, ↓c_not, b_not, ↓c_tbool, ↓c_or0, ↓c_and0, ↓c_or, ↓c_and, b_ao, b_aa, ↓c_tcall, b_tb, ↓c_ts0, ↓c_ts, b_ts, ↓exs_then, ↓c_exs0, b_next, b_ret, b_kret, ↓x_alc, ↓x_tt, b_tt, b_nx, ba_nil, ba_cons, ↓x_ti, b_ti, ↓x_store, b_st1, b_st2, b_st3, b_st4, ↓x_if, b_ifs, ↓x_for, b_for, ↓x_while, ↓x_expr, b_ex, b_fnr, b_fnn, ↓lvl_exz, ↓lvl_exs, call_bi, call_ty, freeze_d, ↓if_tt, ↓if_ff, if_true, if_false, Bool.not_true, Bool.not_false, hin p.1 p.2 (L s hsh _ (zip_mem hp).1) (L t hth _ (zip_mem hp).2)]
 · rw [decide_eq_false hh, if_neg hh]; rfl
end
end Mine.L
end
section
namespace Mine.L
open PySem
noncomputable def memK (K : List (Tm × Tm)) (s t : Tm) : Bool := decide ((s, t) ∈ K)
noncomputable def tabT (K : List (Tm × Tm)) : List ((Tm × Tm) × Bool) := K.map fun p => (p, true)
theorem memT (K : List (Tm × Tm)) (s t : Tm) : memB (tabT K) s t = memK K s t := by
 induction K with
 | nil => rfl
 | cons p K ih =>
   unfold memB memK tabT at *
   rw [List.map_cons, List.lookup_cons]
   by_cases h : (s, t) = p
   · rw [beq_iff_eq.mpr h, decide_eq_true (by rw [h]; exact List.mem_cons_self ..)]; rfl
   · rw [beq_eq_false_iff_ne.mpr h]
     exact ih.trans (decide_eq_decide.mpr ⟨List.mem_cons_of_mem _, fun m => (List.mem_cons.mp m).resolve_left h⟩)
theorem comes_path (F : Tm -> Tm -> Bool) (rs : List (Str × Int)) (s t : Tm) : comesB F rs s t = pathB F rs s t := by
 have e : (if hdK rs s = hdK rs t then fstD F s.kids t.kids else gtK (hdK rs s) (hdK rs t)) = (gtK (hdK rs s) (hdK rs t) || (decide (hdK rs s = hdK rs t) && fstD F s.kids t.kids)) := by
   by_cases h : hdK rs s = hdK rs t
   · rw [if_pos h, decide_eq_true h, h, gtK_irr]; rfl
   · rw [if_neg h, decide_eq_false h, Bool.false_and, Bool.or_false]
 unfold comesB pathB
 rw [e]
theorem fstD_mono {f g : Tm -> Tm -> Bool} (h : ∀ a b, f a b = true -> g a b = true) (l : List Tm) : ∀ m : List Tm, fstD f l m = true -> fstD g l m = true := by
 induction l with
 | nil => exact fun _ e => no_ft e
 | cons a l ih =>
   intro m e
   cases m with
   | nil => exact no_ft e
   | cons b m =>
     rw [fstD_cons] at e ⊢
     by_cases hab : a = b
     · rw [if_pos hab] at e ⊢; exact ih m e
     · rw [if_neg hab] at e ⊢; exact h a b e
theorem if_mono {c : Prop} [Decidable c] {a x y : Bool} (h : x = true -> y = true) (e : (if c then a else x) = true) : (if c then a else y) = true := by
 by_cases hc : c
 · rw [if_pos hc] at e ⊢; exact e
 · rw [if_neg hc] at e ⊢; exact h e
theorem none_mono {l : List Tm} {p q : Tm -> Bool} (h : ∀ a, p a = true -> q a = true) (e : (l.filter q).isEmpty = true) : (l.filter p).isEmpty = true := by
 rw [List.isEmpty_iff, List.filter_eq_nil_iff] at e ⊢
 exact fun k hk hc => e k hk (h k hc)
theorem path_mono {F G : Tm -> Tm -> Bool} (h : ∀ a b, F a b = true -> G a b = true) {rs : List (Str × Int)} {s t : Tm} : pathB F rs s t = true -> pathB G rs s t = true := by
 unfold pathB
 refine if_mono (if_mono fun e => ?_)
 cases hg : (s.kids.filter fun k => decide (k = t) || G k t).isEmpty with
 | false => rfl
 | true =>
   rw [if_pos (none_mono (fun k hc => Bool.or_eq_true_iff.mpr ((Bool.or_eq_true_iff.mp hc).imp id (h k t))) hg)] at e
   rw [if_pos rfl]
   refine if_mono (fun e => ?_) e
   cases h1 : (t.kids.filter fun k => !F s k).isEmpty with
   | false => rw [h1] at e; exact no_ft e
   | true =>
     rw [h1] at e
     rw [if_pos (none_mono (fun k hc => by cases hF : F s k with | false => rfl | true => rw [h s k hF] at hc; exact no_ft hc) h1)]
     exact Bool.or_eq_true_iff.mpr ((Bool.or_eq_true_iff.mp e).imp id fun q => Bool.and_eq_true_iff.mpr ⟨(and_t q).1, fstD_mono h _ _ (and_t q).2⟩)
theorem path_congr {F G : Tm -> Tm -> Bool} {rs : List (Str × Int)} {s t : Tm} (h1 : ∀ k ∈ s.kids, F k t = G k t) (h2 : ∀ k ∈ t.kids, F s k = G s k) (h3 : ∀ a ∈ s.kids, ∀ b ∈ t.kids, F a b = G a b) : pathB F rs s t = pathB G rs s t := by
 unfold pathB
 have e1 : (s.kids.filter fun k => decide (k = t) || F k t) = s.kids.filter fun k => decide (k = t) || G k t := List.filter_congr fun k hk => by rw [h1 k hk]
 have e2 : (t.kids.filter fun k => !F s k) = t.kids.filter fun k => !G s k := List.filter_congr fun k hk => by rw [h2 k hk]
 rw [e1, e2, fstD_congr h3]
structure Good (rs : List (Str × Int)) (U : List Tm) (K : List (Tm × Tm)) : Prop where
 nodup : K.Nodup
 mem : ∀ p ∈ K, p.1 ∈ U /\ p.2 ∈ U /\ PR rs p.1 p.2 = true
noncomputable def Closed (rs : List (Str × Int)) (U : List Tm) (K : List (Tm × Tm)) : Prop := ∀ s ∈ U, ∀ t ∈ U, pathB (memK K) rs s t = true -> (s, t) ∈ K
theorem Good.len {rs U K} (h : Good rs U K) (hU : Uni U) : K.length <= 3600 :=
 Nat.le_trans (length_le_of_sub h.nodup fun p hp => mem_pairs.mpr ⟨(h.mem p hp).1, (h.mem p hp).2.1⟩) (pairs_len hU.len)
noncomputable def stp (rs : List (Str × Int)) (K : List (Tm × Tm)) (p : Tm × Tm) : List (Tm × Tm) := if !memK K p.1 p.2 && pathB (memK K) rs p.1 p.2 then K ++ [p] else K
theorem Good.stp {rs U K} (h : Good rs U K) {p : Tm × Tm} (h1 : p.1 ∈ U) (h2 : p.2 ∈ U) : Good rs U (stp rs K p) := by
 unfold L.stp
 by_cases hc : (!memK K p.1 p.2 && pathB (memK K) rs p.1 p.2) = true
 · rw [if_pos hc]
   have hn : p ∉ K := of_decide_eq_false (not_t (and_t hc).1)
   refine ⟨List.nodup_append.mpr ⟨h.nodup, List.nodup_cons.mpr ⟨List.not_mem_nil, List.nodup_nil⟩, fun a ha b hb e => hn ((e.trans (List.mem_singleton.mp hb) : a = p) ▸ ha)⟩, fun q hq => ?_⟩
   rcases List.mem_append.mp hq with hq | hq
   · exact h.mem q hq
   · rw [List.mem_singleton.mp hq]
     exact ⟨h1, h2, (PR_eq rs p.1 p.2).trans (path_mono (fun a b hab => (h.mem _ (of_decide_eq_true hab)).2.2) (and_t hc).2)⟩
 · rw [if_neg hc]; exact h
theorem stp_len (rs : List (Str × Int)) (p : Tm × Tm) (K : List (Tm × Tm)) : K.length <= (stp rs K p).length := by
 unfold stp
 cases (!memK K p.1 p.2 && pathB (memK K) rs p.1 p.2) with
 | true => exact List.length_append (as := K) ▸ Nat.le_add_right _ _
 | false => exact Nat.le_refl _
theorem fold_len (rs : List (Str × Int)) (ps : List (Tm × Tm)) : ∀ K : List (Tm × Tm), K.length <= (ps.foldl (stp rs) K).length := by
 induction ps with
 | nil => exact fun _ => Nat.le_refl _
 | cons p ps ih => exact fun K => Nat.le_trans (stp_len rs p K) (ih (stp rs K p))
theorem stp_same {rs : List (Str × Int)} {p : Tm × Tm} {K : List (Tm × Tm)} (h : (stp rs K p).length <= K.length) : stp rs K p = K /\ (pathB (memK K) rs p.1 p.2 = true -> p ∈ K) := by
 unfold stp at h ⊢
 cases hc : (!memK K p.1 p.2 && pathB (memK K) rs p.1 p.2) with
 | true => rw [hc, if_pos rfl, List.length_append] at h; exact absurd h (Nat.not_succ_le_self _)
 | false =>
   refine ⟨rfl, fun hp => ?_⟩
   rw [hp, Bool.and_true, Bool.not_eq_false'] at hc
   exact of_decide_eq_true hc
theorem fold_same (rs : List (Str × Int)) (ps : List (Tm × Tm)) : ∀ K : List (Tm × Tm), (ps.foldl (stp rs) K).length = K.length -> ps.foldl (stp rs) K = K /\ ∀ p ∈ ps, pathB (memK K) rs p.1 p.2 = true -> p ∈ K := by
 induction ps with
 | nil => exact fun K _ => ⟨rfl, fun _ h => nomatch h⟩
 | cons p ps ih =>
   intro K h
   rw [List.foldl_cons] at h ⊢
   have hs := stp_same (Nat.le_trans (fold_len rs ps (stp rs K p)) (Nat.le_of_eq h))
   rw [hs.1] at h ⊢
   exact ⟨(ih K h).1, fun q hq => (List.mem_cons.mp hq).elim (fun e => e ▸ hs.2) ((ih K h).2 q)⟩
theorem Good.fold {rs U} (ps : List (Tm × Tm)) : ∀ {K}, Good rs U K -> (∀ p ∈ ps, p.1 ∈ U /\ p.2 ∈ U) -> Good rs U (ps.foldl (L.stp rs) K) := by
 induction ps with
 | nil => exact fun h _ => h
 | cons p ps ih => exact fun h hp => ih (h.stp (hp p (List.mem_cons_self ..)).1 (hp p (List.mem_cons_self ..)).2) fun q hq => hp q (List.mem_cons_of_mem _ hq)
theorem closed_all {rs U K} (hU : Uni U) (h : Good rs U K) (hc : Closed rs U K) : ∀ s ∈ U, ∀ t ∈ U, memK K s t = PR rs s t := by
 have main : ∀ (n : Nat) (s t : Tm), s.size + t.size <= n -> s ∈ U -> t ∈ U -> memK K s t = PR rs s t := by
   intro n
   induction n with
   | zero => exact fun s t h => absurd (Nat.lt_of_lt_of_le s.size_pos (Nat.le_trans (Nat.le_add_right _ _) h)) (Nat.lt_irrefl _)
   | succ n ih =>
     intro s t hn hs ht
     have e : pathB (memK K) rs s t = PR rs s t := by
       rw [PR_eq]
       refine path_congr (fun k hk => ?_) (fun k hk => ?_) fun a ha b hb => ?_
       · exact ih k t (Nat.le_of_lt_succ (Nat.lt_of_lt_of_le (Nat.add_lt_add_right (Tm.size_kid hk) _) hn)) (hU.kids s hs k hk) ht
       · exact ih s k (Nat.le_of_lt_succ (Nat.lt_of_lt_of_le (Nat.add_lt_add_left (Tm.size_kid hk) _) hn)) hs (hU.kids t ht k hk)
       · exact ih a b (Nat.le_of_lt_succ (Nat.lt_of_lt_of_le (Nat.add_lt_add (Tm.size_kid ha) (Tm.size_kid hb)) hn)) (hU.kids s hs a ha) (hU.kids t ht b hb)
     unfold memK
     rw [Bool.eq_iff_iff, decide_eq_true_iff]
     exact ⟨fun hm => (h.mem _ hm).2.2, fun hp => hc s hs t ht (e.trans hp)⟩
 exact fun s hs t ht => main _ s t (Nat.le_refl _) hs ht
theorem fold_pairs (rs : List (Str × Int)) (U : List Tm) (l : List Tm) : ∀ K : List (Tm × Tm), l.foldl (fun K s => U.foldl (fun K t => stp rs K (s, t)) K) K = (l.flatMap fun s => U.map fun t => (s, t)).foldl (stp rs) K := by
 induction l with
 | nil => exact fun _ => rfl
 | cons s l ih => exact fun K => by rw [List.foldl_cons, List.flatMap_cons, List.foldl_append, List.foldl_map, ih]
end Mine.L
end
section
namespace Mine.L
open PySem
noncomputable def gT (o : Option (Tm × Option Tm)) : Loc := match o with | none => [] | some (s, none) => [(("s" : Str), V.d s.enc)] | some (s, some t) => [(("s" : Str), V.d s.enc), (("t" : Str), V.d t.enc)]
noncomputable def gL (v : V) (U : List Tm) (i : Nat) (b : Int) (o : Option (Tm × Option Tm)) : Loc := (("ranks" : Str), v) :: (("some" : Str), V.d (.list (U.map Tm.enc))) :: (("known" : Str), V.obj i) :: (("before" : Str), V.d (.int b)) :: gT o
noncomputable def gM (μ : Sto) (K : List (Tm × Tm)) : Sto := μ ++ [.dict (tabD (tabT K))]
theorem isrn_app {μ e : Sto} {v : V} {rs : List (Str × Int)} (h : IsRn μ v rs) : IsRn (μ ++ e) v rs := by
 refine ⟨?_, h.2⟩
 have h1 := h.1
 cases v with
 | obj i =>
   cases hi : μ[i]? with
   | none =>
     have h1 : (μ[i]?).bind dictO = _ := h1
     rw [hi] at h1; exact no_some h1
   | some m =>
     show ((μ ++ e)[i]?).bind dictO = _
     rw [List.getElem?_append_left (List.getElem?_eq_some_iff.mp hi).1]; exact h1
 | _ => exact h1
section
variable {rs : List (Str × Int)} {μ : Sto} {v : V} {U : List Tm}
theorem gM_tab {K : List (Tm × Tm)} : IsTab (gM μ K) (.obj μ.length) (tabT K) := by
 show ((gM μ K)[μ.length]?).bind dictO = _
 unfold gM
 rw [get_mid]; rfl
theorem gM_store {K : List (Tm × Tm)} {p : Tm × Tm} (h1 : p.1.ht <= 3) (h2 : p.2.ht <= 3) (hp : memK K p.1 p.2 = false) (hl : K.length <= 100000) : storeM (gM μ K) (.obj μ.length) (.d (.tuple [p.1.enc, p.2.enc])) (.d (.bool true)) = some (gM μ (K ++ [p])) := by
 have hk : (gM μ K)[μ.length]? = some (.dict (tabD (tabT K))) := by unfold gM; rw [get_mid]
 have hn : (tabT K).lookup p = none := by
   have := memT K p.1 p.2
   rw [hp] at this
   unfold memB at this
   exact Option.not_isSome_iff_eq_none.mp (by rw [this]; decide)
 rw [store_any (b := true) hk h1 h2 (by unfold tabT; rw [List.length_map]; exact hl), put_tab hn]
 unfold gM
 rw [set_mid]
 unfold tabT
 rw [List.map_append]; rfl
theorem gM_len {K : List (Tm × Tm)} (hl : K.length <= 100000) : builtinM (gM μ K) (.builtin "len") [.obj μ.length] = some (.d (.int K.length), gM μ K) := by
 show (((gM μ K)[μ.length]?).bind dictO).bind _ = _
 have hk : (gM μ K)[μ.length]? = some (.dict (tabD (tabT K))) := by unfold gM; rw [get_mid]
 have hln : (tabD (tabT K)).length = K.length := by unfold tabD tabT; rw [List.length_map, List.length_map]
 rw [hk]
 show (if tupKeys (tabD (tabT K)) && decide ((tabD (tabT K)).length <= 100000) then some (V.d (.int (tabD (tabT K)).length), gM μ K) else none) = _
 rw [tab_keys, hln, decide_eq_true hl]; rfl
theorem wh_stop {r : Rec} {sc : Scope} {test : Expr} {body : List Stmt} {n : Nat} {ρ : Loc} {μ μ1 : Sto} (h : r.tr ⟨sc, ρ⟩ test μ = some (false, μ1)) : whileM r sc test body (n + 1) ρ μ = some (.next, ρ, μ1) := by
 show (r.tr ⟨sc, ρ⟩ test μ).bind _ = _
 rw [h]; rfl
theorem wh_go {r : Rec} {sc : Scope} {test : Expr} {body : List Stmt} {n : Nat} {ρ ρ1 : Loc} {μ μ1 μ2 : Sto} (h : r.tr ⟨sc, ρ⟩ test μ = some (true, μ1)) (h2 : r.exs sc body ρ μ1 = some (.next, ρ1, μ2)) : whileM r sc test body (n + 1) ρ μ = whileM r sc test body n ρ1 μ2 := by
 show (r.tr ⟨sc, ρ⟩ test μ).bind _ = _
 rw [h]
 show (r.exs sc body ρ μ1).bind _ = _
 rw [h2]; rfl
theorem while_foldZ {σ : Type} {r : Rec} {sc : Scope} {test : Expr} {body : List Stmt} (L : σ -> Loc) (M : σ -> Sto) (c : σ -> Bool) (step : σ -> σ) (I : σ -> Prop) (m : σ -> Nat) (n : Nat) : ∀ (s : σ) (Z : FX), whileM r sc test body n (L s) (M s) = Z -> I s -> m s + 2 <= n ->
   (∀ s, I s -> r.tr ⟨sc, L s⟩ test (M s) = some (c s, M s)) -> (∀ s, I s -> c s = true -> I (step s) /\ r.exs sc body (L s) (M s) = some (.next, L (step s), M (step s)) /\ (c (step s) = true -> m (step s) < m s)) ->
   ∃ s', I s' /\ c s' = false /\ Z = some (.next, L s', M s') := by
 induction n with
 | zero => exact fun _ _ _ _ h => absurd h (Nat.not_succ_le_zero _)
 | succ n ih =>
   intro s Z hZ hI hn ht hb
   have hts := ht s hI
   cases hc : c s with
   | false => rw [hc] at hts; exact ⟨s, hI, hc, hZ.symm.trans (wh_stop hts)⟩
   | true =>
     rw [hc] at hts
     have q := hb s hI hc
     rw [wh_go hts q.2.1] at hZ
     have hn := Nat.le_of_succ_le_succ hn
     cases hc2 : c (step s) with
     | true => exact ih (step s) Z hZ q.1 (Nat.le_trans (Nat.succ_le_succ (q.2.2 hc2)) hn) ht hb
     | false =>
       cases n with
       | zero => exact absurd hn (Nat.not_succ_le_zero _)
       | succ n =>
         have ht2 := ht _ q.1
         rw [hc2] at ht2
         exact ⟨step s, q.1, hc2, hZ.symm.trans (wh_stop ht2)⟩
theorem for_foldZ {α σ : Type} {r : Rec} {sc : Scope} {tgt : Expr} {body : List Stmt} (e : α -> PyData) (L : σ -> Loc) (M : σ -> Sto) (step : σ -> α -> σ) (I : σ -> List α -> Prop) (l : List α) (s : σ) (Z : Option (Flw × Loc × Sto)) (hZ : forM r sc tgt body (l.map e) (L s) (M s) = Z) (hI : I s l)
   (h : ∀ x l, ∀ s, I s (x :: l) -> I (step s x) l /\ ∃ ρ, bindT sc true tgt (e x) (L s) = some ρ /\ r.exs sc body ρ (M s) = some (.next, L (step s x), M (step s x))) :
   Z = some (.next, L (l.foldl step s), M (l.foldl step s)) := hZ.symm.trans (for_foldS e L M step I l s hI h).1
structure GSt where
 K : List (Tm × Tm)
 b : Int
 o : Option (Tm × Option Tm)
noncomputable def inO (U : List Tm) (s : Tm) (q : List (Tm × Tm) × Option Tm) (rs : List (Str × Int)) : List (Tm × Tm) × Option Tm := U.foldl (fun q t => (stp rs q.1 (s, t), some t)) q
noncomputable def outO (rs : List (Str × Int)) (U : List Tm) (l : List Tm) (q : List (Tm × Tm) × Option (Tm × Option Tm)) : List (Tm × Tm) × Option (Tm × Option Tm) := l.foldl (fun q s => ((inO U s (q.1, q.2.bind (·.2)) rs).1, some (s, (inO U s (q.1, q.2.bind (·.2)) rs).2))) q
theorem in_fst (rs : List (Str × Int)) (s : Tm) (l : List Tm) : ∀ q : List (Tm × Tm) × Option Tm, (l.foldl (fun q t => (stp rs q.1 (s, t), some t)) q).1 = l.foldl (fun K t => stp rs K (s, t)) q.1 := by
 induction l with
 | nil => exact fun _ => rfl
 | cons t l ih => exact fun q => ih _
theorem out_fst (rs : List (Str × Int)) (U : List Tm) (l : List Tm) : ∀ q : List (Tm × Tm) × Option (Tm × Option Tm), (outO rs U l q).1 = l.foldl (fun K s => U.foldl (fun K t => stp rs K (s, t)) K) q.1 := by
 induction l with
 | nil => exact fun _ => rfl
 | cons s l ih =>
   intro q
   refine (ih _).trans ?_
   rw [List.foldl_cons]
   show l.foldl _ (inO U s (q.1, q.2.bind (·.2)) rs).1 = _
   unfold inO
   rw [in_fst]
noncomputable def GSt.step (rs : List (Str × Int)) (U : List Tm) (s : GSt) : GSt := ⟨(outO rs U U (s.K, s.o)).1, s.K.length, (outO rs U U (s.K, s.o)).2⟩
theorem step_K (rs : List (Str × Int)) (U : List Tm) (s : GSt) : (s.step rs U).K = (pairsOf U).foldl (stp rs) s.K := by
 show (outO rs U U (s.K, s.o)).1 = _
 rw [out_fst, fold_pairs]; rfl
noncomputable def GSt.I (rs : List (Str × Int)) (U : List Tm) (s : GSt) : Prop := Good rs U s.K /\ (s.b < s.K.length \/ Closed rs U s.K)
theorem step_I (hU : Uni U) {s : GSt} (h : s.I rs U) : (s.step rs U).I rs U /\ (decide ((s.step rs U).b < (s.step rs U).K.length) = true -> 3600 - (s.step rs U).K.length < 3600 - s.K.length) := by
 obtain ⟨h1, _⟩ := h
 have g := h1.fold (pairsOf U) fun p hp => mem_pairs.mp hp
 have hl := fold_len rs (pairsOf U) s.K
 have hcap := g.len hU
 have hb : (s.step rs U).b = s.K.length := rfl
 rw [<- step_K] at g hl hcap
 refine ⟨⟨g, ?_⟩, fun hc => ?_⟩
 · by_cases he : (s.step rs U).K.length = s.K.length
   · right
     rw [step_K] at he
     obtain ⟨e1, e2⟩ := fold_same rs (pairsOf U) s.K he
     rw [step_K, e1]
     exact fun a ha b hb hp => e2 (a, b) (mem_pairs.mpr ⟨ha, hb⟩) hp
   · exact .inl (hb ▸ Int.ofNat_lt.mpr (Nat.lt_of_le_of_ne hl (Ne.symm he)))
 · have hc := of_decide_eq_true hc
   rw [hb] at hc
   exact Nat.sub_lt_sub_left (Nat.lt_of_lt_of_le (Int.ofNat_lt.mp hc) hcap) (Int.ofNat_lt.mp hc)
theorem gathered_fn (hU : Uni U) (hr : IsRn μ v rs) (M : Nat) (hM : 100 <= M) : ∃ K, Good rs U K /\ Closed rs U K /\ (Lvl PP M).call (.con (.ref 206)) [v, .d (.list (U.map Tm.enc))] μ = some (.dict (tabD (tabT K)), μ ++ [.dead]) := by
 obtain ⟨M, rfl⟩ : ∃ m, M = m + 100 := ⟨M - 100, by omega⟩
 rw [call_fn (show PP.fn 206 = some ⟨_, _, _⟩ from rfl) rfl]
 simp -implicitDefEqProofs (disch := first | exact keq rfl | decide | exact Nat.le_trans (by decide) (Nat.le_add_left _ _) | exact Nat.le_add_right_of_le (Nat.le_trans (by decide) (Nat.le_add_left _ _)) | (simp only [List.map_cons, List.map_nil]; decide)) only [↓pureE_ok, ↓pureEs_ok, ↓d_evs, ↓d_tuple, b_as, ↓c_lc1, ↓c_lc2, ↓d_call, ↓p_call, ↓d_meth, ↓p_meth, ↓d_attr, ↓p_attr, ↓d_cmp, ↓p_cmp, ↓d_tcmp, ↓p_tcmp, ↓d_sl1, ↓p_sl1, ↓d_sl2, ↓p_sl2, ↓d_item, ↓p_item, ↓d_bin, ↓p_bin, ↓d_it, ↓p_it, ↓d_lazy, ↓p_lazy, ↓d_ret, ↓p_ret, ↓d_as, ↓p_as, b_call, b_m1, b_m2, b_at, b_v, b_d, b_c1, b_c2, b_c3, b_t1, b_t2, b_t3, ↓c_sl3, b_s, b_i, ↓c_itemC, b_i1, b_i2, b_b1, b_b2, ↓c_neg, ↓c_if, b_if, ↓c_dict, ↓c_list, b_l, ↓c_listm, b_lm, b_tu, ↓c_evs0, b_e1, b_e2, ↓c_bool, ↓c_bo1, ↓c_bo2, b_and, b_or, ↓c_lc, b_lc, b_lc2, b_ld, b_itl, b_itt, b_lz, b_lw, ↓c_itc, ↓c_not, b_not, ↓c_tbool, ↓c_or0, ↓c_and0, ↓c_or, ↓c_and, b_ao, b_aa, ↓c_tcall, b_tb, ↓c_ts0, ↓c_ts, b_ts, ↓exs_then, ↓c_exs0, b_next, b_ret, b_kret, ↓x_alc, ↓x_tt, b_tt, b_nx, ba_nil, ba_cons, ↓x_ti, b_ti, ↓x_store, b_st1, b_st2, b_st3, b_st4, ↓x_if, b_ifs, ↓x_for, b_for, ↓x_while, ↓x_expr, b_ex, b_fnr, b_fnn, ↓lvl_exz, ↓lvl_exs, call_bi, call_ty, freeze_d, ↓if_tt, ↓if_ff, if_true, if_false, Bool.not_true, Bool.not_false, show smallI 1 = true from rfl]
 generalize hZ : whileM _ _ _ _ _ _ _ = Z
 have hq := while_foldZ (fun s : GSt => gL v U μ.length s.b s.o) (fun s => gM μ s.K) (fun s => decide (s.b < s.K.length)) (GSt.step rs U) (GSt.I rs U) (fun s => 3600 - s.K.length) turns ⟨[], -1, none⟩ Z hZ ⟨⟨List.nodup_nil, fun _ h => (List.not_mem_nil h).elim⟩, .inl (by decide)⟩ (by decide) ?_ ?_
 · obtain ⟨⟨K, b, o⟩, ⟨hg, hc⟩, hd, rfl⟩ := hq
   refine ⟨K, hg, hc.resolve_left (of_decide_eq_false hd), ?_⟩
   have fz : freeze μ.length (.obj μ.length) (gM μ K) = (.dict (tabD (tabT K)), μ ++ [.dead]) := freeze_dict
   simp -implicitDefEqProofs (disch := first | exact keq rfl | decide | exact Nat.le_trans (by decide) (Nat.le_add_left _ _) | exact Nat.le_add_right_of_le (Nat.le_trans (by decide) (Nat.le_add_left _ _)) | (simp only [List.map_cons, List.map_nil]; decide)) only [↓pureE_ok, ↓pureEs_ok, ↓d_evs, ↓d_tuple, b_as, ↓c_lc1, ↓c_lc2, ↓d_call, ↓p_call, ↓d_meth, ↓p_meth, ↓d_attr, ↓p_attr, ↓d_cmp, ↓p_cmp, ↓d_tcmp, ↓p_tcmp, ↓d_sl1, ↓p_sl1, ↓d_sl2, ↓p_sl2, ↓d_item, ↓p_item, ↓d_bin, ↓p_bin, ↓d_it, ↓p_it, ↓d_lazy, ↓p_lazy, ↓d_ret, ↓p_ret, ↓d_as, ↓p_as, b_call, b_m1, b_m2, b_at, b_v, b_d, b_c1, b_c2, b_c3, b_t1, b_t2, b_t3, ↓c_sl3, b_s, b_i, ↓c_itemC, b_i1, b_i2, b_b1, b_b2, ↓c_neg, ↓c_if, b_if, ↓c_dict, ↓c_list, b_l, ↓c_listm, b_lm, b_tu, ↓c_evs0, b_e1, b_e2, ↓c_bool, ↓c_bo1, ↓c_bo2, b_and, b_or, ↓c_lc, b_lc, b_lc2, b_ld, b_itl, b_itt, b_lz, b_lw, ↓c_itc, ↓c_not, b_not, ↓c_tbool, ↓c_or0, ↓c_and0, ↓c_or, ↓c_and, b_ao, b_aa, ↓c_tcall, b_tb, ↓c_ts0, ↓c_ts, b_ts, ↓exs_then, ↓c_exs0, b_next, b_ret, b_kret, ↓x_alc, ↓x_tt, b_tt, b_nx, ba_nil, ba_cons, ↓x_ti, b_ti, ↓x_store, b_st1, b_st2, b_st3, b_st4, ↓x_if, b_ifs, ↓x_for, b_for, ↓x_while, ↓x_expr, b_ex, b_fnr, b_fnn, ↓lvl_exz, ↓lvl_exs, call_bi, call_ty, freeze_d, ↓if_tt, ↓if_ff, if_true, if_false, Bool.not_true, Bool.not_false, gL, fz]
 · rintro ⟨K, b, o⟩ ⟨hg, _⟩
   have hl := gM_len (μ := μ) (K := K) (Nat.le_trans (hg.len hU) (by decide))
   simp -implicitDefEqProofs (disch := first | exact keq rfl | decide | exact Nat.le_trans (by decide) (Nat.le_add_left _ _) | exact Nat.le_add_right_of_le (Nat.le_trans (by decide) (Nat.le_add_left _ _)) | (simp only [List.map_cons, List.map_nil]; decide)) only [↓pureE_ok, ↓pureEs_ok, ↓d_evs, ↓d_tuple, b_as, ↓c_lc1, ↓c_lc2, ↓d_call, ↓p_call, ↓d_meth, ↓p_meth, ↓d_attr, ↓p_attr, ↓d_cmp, ↓p_cmp, ↓d_tcmp, ↓p_tcmp, ↓d_sl1, ↓p_sl1, ↓d_sl2, ↓p_sl2, ↓d_item, ↓p_item, ↓d_bin, ↓p_bin, ↓d_it, ↓p_it, ↓d_lazy, ↓p_lazy, ↓d_ret, ↓p_ret, ↓d_as, ↓p_as, b_call, b_m1, b_m2, b_at, b_v, b_d, b_c1, b_c2, b_c3, b_t1, b_t2, b_t3, ↓c_sl3, b_s, b_i, ↓c_itemC, b_i1, b_i2, b_b1, b_b2, ↓c_neg, ↓c_if, b_if, ↓c_dict, ↓c_list, b_l, ↓c_listm, b_lm, b_tu, ↓c_evs0, b_e1, b_e2, ↓c_bool, ↓c_bo1, ↓c_bo2, b_and, b_or, ↓c_lc, b_lc, b_lc2, b_ld, b_itl, b_itt, b_lz, b_lw, ↓c_itc, ↓c_not, b_not, ↓c_tbool, ↓c_or0, ↓c_and0, ↓c_or, ↓c_and, b_ao, b_aa, ↓c_tcall, b_tb, ↓c_ts0, ↓c_ts, b_ts, ↓exs_then, ↓c_exs0, b_next, b_ret, b_kret, ↓x_alc, ↓x_tt, b_tt, b_nx, ba_nil, ba_cons, ↓x_ti, b_ti, ↓x_store, b_st1, b_st2, b_st3, b_st4, ↓x_if, b_ifs, ↓x_for, b_for, ↓x_while, ↓x_expr, b_ex, b_fnr, b_fnn, ↓lvl_exz, ↓lvl_exs, call_bi, call_ty, freeze_d, ↓if_tt, ↓if_ff, if_true, if_false, Bool.not_true, Bool.not_false, gL, hl, lt_int]
 · rintro ⟨K, b, o⟩ hI hc
   obtain ⟨i1, i2⟩ := step_I hU hI
   refine ⟨i1, ?_, i2⟩
   obtain ⟨hg, _⟩ := hI
   have hl := gM_len (μ := μ) (K := K) (Nat.le_trans (hg.len hU) (by decide))
   simp -implicitDefEqProofs (disch := first | exact keq rfl | decide | exact Nat.le_trans (by decide) (Nat.le_add_left _ _) | exact Nat.le_add_right_of_le (Nat.le_trans (by decide) (Nat.le_add_left _ _)) | (simp only [List.map_cons, List.map_nil]; decide)) only [↓pureE_ok, ↓pureEs_ok, ↓d_evs, ↓d_tuple, b_as, ↓c_lc1, ↓c_lc2, ↓d_call, ↓p_call, ↓d_meth, ↓p_meth, ↓d_attr, ↓p_attr, ↓d_cmp, ↓p_cmp, ↓d_tcmp, ↓p_tcmp, ↓d_sl1, ↓p_sl1, ↓d_sl2, ↓p_sl2, ↓d_item, ↓p_item, ↓d_bin, ↓p_bin, ↓d_it, ↓p_it, ↓d_lazy, ↓p_lazy, ↓d_ret, ↓p_ret, ↓d_as, ↓p_as, b_call, b_m1, b_m2, b_at, b_v, b_d, b_c1, b_c2, b_c3, b_t1, b_t2, b_t3, ↓c_sl3, b_s, b_i, ↓c_itemC, b_i1, b_i2, b_b1, b_b2, ↓c_neg, ↓c_if, b_if, ↓c_dict, ↓c_list, b_l, ↓c_listm, b_lm, b_tu, ↓c_evs0, b_e1, b_e2, ↓c_bool, ↓c_bo1, ↓c_bo2, b_and, b_or, ↓c_lc, b_lc, b_lc2, b_ld, b_itl, b_itt, b_lz, b_lw, ↓c_itc, ↓c_not, b_not, ↓c_tbool, ↓c_or0, ↓c_and0, ↓c_or, ↓c_and, b_ao, b_aa, ↓c_tcall, b_tb, ↓c_ts0, ↓c_ts, b_ts, ↓exs_then, ↓c_exs0, b_next, b_ret, b_kret, ↓x_alc, ↓x_tt, b_tt, b_nx, ba_nil, ba_cons, ↓x_ti, b_ti, ↓x_store, b_st1, b_st2, b_st3, b_st4, ↓x_if, b_ifs, ↓x_for, b_for, ↓x_while, ↓x_expr, b_ex, b_fnr, b_fnn, ↓lvl_exz, ↓lvl_exs, call_bi, call_ty, freeze_d, ↓if_tt, ↓if_ff, if_true, if_false, Bool.not_true, Bool.not_false, gL, hl, b_as', set_hit, set_miss]
   generalize hZ2 : forM _ _ _ _ _ _ _ = Z2
   have hq := for_foldZ Tm.enc (fun q : List (Tm × Tm) × Option (Tm × Option Tm) => gL v U μ.length K.length q.2) (fun q => gM μ q.1) (fun q s => ((inO U s (q.1, q.2.bind (·.2)) rs).1, some (s, (inO U s (q.1, q.2.bind (·.2)) rs).2)))
     (fun q l => Good rs U q.1 /\ ∀ s ∈ l, s ∈ U) U (K, o) Z2 hZ2 ⟨hg, fun _ h => h⟩ ?_
   · rw [hq]; rfl
   · rintro s l ⟨K1, o1⟩ ⟨hg1, hl1⟩
     have hs := hl1 s (List.mem_cons_self ..)
     refine ⟨⟨?_, fun x hx => hl1 x (List.mem_cons_of_mem _ hx)⟩, gL v U μ.length K.length (some (s, o1.bind (·.2))), ?_, ?_⟩
     · show Good rs U (inO U s (K1, o1.bind (·.2)) rs).1
       unfold inO
       rw [in_fst, <- List.foldl_map (f := fun t => (s, t)) (g := stp rs)]
       exact hg1.fold _ fun p hp => by obtain ⟨t, ht, rfl⟩ := List.mem_map.mp hp; exact ⟨hs, ht⟩
     · rcases o1 with _ | ⟨a, _ | c⟩ <;> rfl
     · generalize o1.bind (·.2) = o2
       simp -implicitDefEqProofs (disch := first | exact keq rfl | decide | exact Nat.le_trans (by decide) (Nat.le_add_left _ _) | exact Nat.le_add_right_of_le (Nat.le_trans (by decide) (Nat.le_add_left _ _)) | (simp only [List.map_cons, List.map_nil]; decide)) only [↓pureE_ok, ↓pureEs_ok, ↓d_evs, ↓d_tuple, b_as, ↓c_lc1, ↓c_lc2, ↓d_call, ↓p_call, ↓d_meth, ↓p_meth, ↓d_attr, ↓p_attr, ↓d_cmp, ↓p_cmp, ↓d_tcmp, ↓p_tcmp, ↓d_sl1, ↓p_sl1, ↓d_sl2, ↓p_sl2, ↓d_item, ↓p_item, ↓d_bin, ↓p_bin, ↓d_it, ↓p_it, ↓d_lazy, ↓p_lazy, ↓d_ret, ↓p_ret, ↓d_as, ↓p_as, b_call, b_m1, b_m2, b_at, b_v, b_d, b_c1, b_c2, b_c3, b_t1, b_t2, b_t3, ↓c_sl3, b_s, b_i, ↓c_itemC, b_i1, b_i2, b_b1, b_b2, ↓c_neg, ↓c_if, b_if, ↓c_dict, ↓c_list, b_l, ↓c_listm, b_lm, b_tu, ↓c_evs0, b_e1, b_e2, ↓c_bool, ↓c_bo1, ↓c_bo2, b_and, b_or, ↓c_lc, b_lc, b_lc2, b_ld, b_itl, b_itt, b_lz, b_lw, ↓c_itc, ↓c_not, b_not, ↓c_tbool, ↓c_or0, ↓c_and0, ↓c_or, ↓c_and, b_ao, b_aa, ↓c_tcall, b_tb, ↓c_ts0, ↓c_ts, b_ts, ↓exs_then, ↓c_exs0, b_next, b_ret, b_kret, ↓x_alc, ↓x_tt, b_tt, b_nx, ba_nil, ba_cons, ↓x_ti, b_ti, ↓x_store, b_st1, b_st2, b_st3, b_st4, ↓x_if, b_ifs, ↓x_for, b_for, ↓x_while, ↓x_expr, b_ex, b_fnr, b_fnn, ↓lvl_exz, ↓lvl_exs, call_bi, call_ty, freeze_d, ↓if_tt, ↓if_ff, if_true, if_false, Bool.not_true, Bool.not_false, gL]
       generalize hZ3 : forM _ _ _ _ _ _ _ = Z3
       have hq := for_foldZ Tm.enc (fun q : List (Tm × Tm) × Option Tm => gL v U μ.length K.length (some (s, q.2))) (fun q => gM μ q.1) (fun q t => (stp rs q.1 (s, t), some t))
         (fun q l => Good rs U q.1 /\ ∀ t ∈ l, t ∈ U) U (K1, o2) Z3 hZ3 ⟨hg1, fun _ h => h⟩ ?_
       · rw [hq]; rfl
       · rintro t l ⟨K2, o3⟩ ⟨hg2, hl2⟩
         have ht := hl2 t (List.mem_cons_self ..)
         refine ⟨⟨hg2.stp hs ht, fun x hx => hl2 x (List.mem_cons_of_mem _ hx)⟩, gL v U μ.length K.length (some (s, some t)), ?_, ?_⟩
         · cases o3 <;> rfl
         · have hsh := hU.ht s hs
           have hth := hU.ht t ht
           have hn := nin_tab (p := (s, t)) (gM_tab (μ := μ) (K := K2)) (Nat.le_succ_of_le hsh) (Nat.le_succ_of_le hth)
           have hn : cmpM (gM μ K2) .NotIn (.d (.tuple [s.enc, t.enc])) (.obj μ.length) = some (!memB (tabT K2) s t) := hn
           have hc := comes_fn (isrn_app (e := [.dict (tabD (tabT K2))]) hr) (gM_tab (μ := μ) (K := K2)) hsh hth (M + 92) (by omega)
           rw [show memB (tabT K2) = memK K2 from funext fun a => funext fun b => memT K2 a b] at hn hc
           rw [comes_path] at hc
           have hc : (Lvl PP (M + 92)).call (.con (.ref 199)) [v, .obj μ.length, .d s.enc, .d t.enc] (gM μ K2) = some (.d (.bool (pathB (memK K2) rs s t)), gM μ K2) := hc
           have g2 : gT (some (s, some t)) = [(("s" : Str), V.d s.enc), (("t" : Str), V.d t.enc)] := rfl
           unfold stp
           simp -implicitDefEqProofs (disch := first | exact keq rfl | decide | exact Nat.le_trans (by decide) (Nat.le_add_left _ _) | exact Nat.le_add_right_of_le (Nat.le_trans (by decide) (Nat.le_add_left _ _)) | (simp only [List.map_cons, List.map_nil]; decide)) only [↓pureE_ok, ↓pureEs_ok, ↓d_evs, ↓d_tuple, b_as, ↓c_lc1, ↓c_lc2, ↓d_call, ↓p_call, ↓d_meth, ↓p_meth, ↓d_attr, ↓p_attr, ↓d_cmp, ↓p_cmp, ↓d_tcmp, ↓p_tcmp, ↓d_sl1, ↓p_sl1, ↓d_sl2, ↓p_sl2, ↓d_item, ↓p_item, ↓d_bin, ↓p_bin, ↓d_it, ↓p_it, ↓d_lazy, ↓p_lazy, ↓d_ret, ↓p_ret, ↓d_as, ↓p_as, b_call, b_m1, b_m2, b_at, b_v, b_d, b_c1, b_c2, b_c3, b_t1, b_t2, b_t3, ↓c_sl3, b_s, b_i, ↓c_itemC, b_i1, b_i2, b_b1, b_b2, ↓c_neg, ↓c_if, b_if, ↓c_dict, ↓c_list, b_l, ↓c_listm, b_lm, b_tu, ↓c_evs0, b_e1, b_e2, ↓c_bool, ↓c_bo1, ↓c_bo2, b_and, b_or, ↓c_lc, b_lc, b_lc2, b_ld, b_itl, b_itt, b_lz, b_lw, ↓c_itc, ↓c_not, b_not, ↓c_tbool, ↓c_or0, ↓c_and0, ↓c_or, ↓c_and, b_ao, b_aa, ↓c_tcall, b_tb, ↓c_ts0, ↓c_ts, b_ts, ↓exs_then, ↓c_exs0, b_next, b_ret, b_kret, ↓x_alc, ↓x_tt, b_tt, b_nx, ba_nil, ba_cons, ↓x_ti, b_ti, ↓x_store, b_st1, b_st2, b_st3, b_st4, ↓x_if, b_ifs, ↓x_for, b_for, ↓x_while, ↓x_expr, b_ex, b_fnr, b_fnn, ↓lvl_exz, ↓lvl_exs, call_bi, call_ty, freeze_d, ↓if_tt, ↓if_ff, if_true, if_false, Bool.not_true, Bool.not_false, gL, g2, hn]
           cases hm : memK K2 s t with
           | true => rfl
           | false =>
             simp -implicitDefEqProofs (disch := first | exact keq rfl | decide | exact Nat.le_trans (by decide) (Nat.le_add_left _ _) | exact Nat.le_add_right_of_le (Nat.le_trans (by decide) (Nat.le_add_left _ _)) | (simp only [List.map_cons, List.map_nil]; decide)) only [↓pureE_ok, ↓pureEs_ok, ↓d_evs, ↓d_tuple, b_as, ↓c_lc1, ↓c_lc2, ↓d_call, ↓p_call, ↓d_meth, ↓p_meth, ↓d_attr, ↓p_attr, ↓d_cmp, ↓p_cmp, ↓d_tcmp, ↓p_tcmp, ↓d_sl1, ↓p_sl1, ↓d_sl2, ↓p_sl2, ↓d_item, ↓p_item, ↓d_bin, ↓p_bin, ↓d_it, ↓p_it, ↓d_lazy, ↓p_lazy, ↓d_ret, ↓p_ret, ↓d_as, ↓p_as, b_call, b_m1, b_m2, b_at, b_v, b_d, b_c1, b_c2, b_c3, b_t1, b_t2, b_t3, ↓c_sl3, b_s, b_i, ↓c_itemC, b_i1, b_i2, b_b1, b_b2, ↓c_neg, ↓c_if, b_if, ↓c_dict, ↓c_list, b_l, ↓c_listm, b_lm, b_tu, ↓c_evs0, b_e1, b_e2, ↓c_bool, ↓c_bo1, ↓c_bo2, b_and, b_or, ↓c_lc, b_lc, b_lc2, b_ld, b_itl, b_itt, b_lz, b_lw, ↓c_itc, ↓c_not, b_not, ↓c_tbool, ↓c_or0, ↓c_and0, ↓c_or, ↓c_and, b_ao, b_aa, ↓c_tcall, b_tb, ↓c_ts0, ↓c_ts, b_ts, ↓exs_then, ↓c_exs0, b_next, b_ret, b_kret, ↓x_alc, ↓x_tt, b_tt, b_nx, ba_nil, ba_cons, ↓x_ti, b_ti, ↓x_store, b_st1, b_st2, b_st3, b_st4, ↓x_if, b_ifs, ↓x_for, b_for, ↓x_while, ↓x_expr, b_ex, b_fnr, b_fnn, ↓lvl_exz, ↓lvl_exs, call_bi, call_ty, freeze_d, ↓if_tt, ↓if_ff, if_true, if_false, Bool.not_true, Bool.not_false, hc]
             cases pathB (memK K2) rs s t with
             | false => rfl
             | true =>
               have hst := gM_store (μ := μ) (K := K2) (p := (s, t)) (Nat.le_succ_of_le hsh) (Nat.le_succ_of_le hth) hm (Nat.le_trans (hg2.len hU) (by decide))
               simp -implicitDefEqProofs (disch := first | exact keq rfl | decide | exact Nat.le_trans (by decide) (Nat.le_add_left _ _) | exact Nat.le_add_right_of_le (Nat.le_trans (by decide) (Nat.le_add_left _ _)) | (simp only [List.map_cons, List.map_nil]; decide)) only [↓pureE_ok, ↓pureEs_ok, ↓d_evs, ↓d_tuple, b_as, ↓c_lc1, ↓c_lc2, ↓d_call, ↓p_call, ↓d_meth, ↓p_meth, ↓d_attr, ↓p_attr, ↓d_cmp, ↓p_cmp, ↓d_tcmp, ↓p_tcmp, ↓d_sl1, ↓p_sl1, ↓d_sl2, ↓p_sl2, ↓d_item, ↓p_item, ↓d_bin, ↓p_bin, ↓d_it, ↓p_it, ↓d_lazy, ↓p_lazy, ↓d_ret, ↓p_ret, ↓d_as, ↓p_as, b_call, b_m1, b_m2, b_at, b_v, b_d, b_c1, b_c2, b_c3, b_t1, b_t2, b_t3, ↓c_sl3, b_s, b_i, ↓c_itemC, b_i1, b_i2, b_b1, b_b2, ↓c_neg, ↓c_if, b_if, ↓c_dict, ↓c_list, b_l, ↓c_listm, b_lm, b_tu, ↓c_evs0, b_e1, b_e2, ↓c_bool, ↓c_bo1, ↓c_bo2, b_and, b_or, ↓c_lc, b_lc, b_lc2, b_ld, b_itl, b_itt, b_lz, b_lw, ↓c_itc, ↓c_not, b_not, ↓c_tbool, ↓c_or0, ↓c_and0, ↓c_or, ↓c_and, b_ao, b_aa, ↓c_tcall, b_tb, ↓c_ts0, ↓c_ts, b_ts, ↓exs_then, ↓c_exs0, b_next, b_ret, b_kret, ↓x_alc, ↓x_tt, b_tt, b_nx, ba_nil, ba_cons, ↓x_ti, b_ti, ↓x_store, b_st1, b_st2, b_st3, b_st4, ↓x_if, b_ifs, ↓x_for, b_for, ↓x_while, ↓x_expr, b_ex, b_fnr, b_fnn, ↓lvl_exz, ↓lvl_exs, call_bi, call_ty, freeze_d, ↓if_tt, ↓if_ff, if_true, if_false, Bool.not_true, Bool.not_false, hst]
               rfl
end
end Mine.L
end
section
namespace Mine.L
open PySem
theorem bool_eqv (b : Bool) : PyData.eqv (.bool b) (.bool b) = true := by cases b <;> rfl
theorem bools_lay (l : List Bool) : PyData.canLayAll0 (l.map .bool) = true /\ PyData.depthAll (l.map .bool) = 0 /\ PyData.eqvAll (l.map .bool) (l.map .bool) = true := by
 induction l with
 | nil => exact ⟨rfl, rfl, rfl⟩
 | cons b l ih => exact ⟨ih.1, (Nat.zero_max _).trans ih.2.1, Bool.and_eq_true_iff.mpr ⟨bool_eqv b, ih.2.2⟩⟩
theorem ne_bools {μ : Sto} (l : List Bool) : cmpM μ .NotEq (.d (.list (l.map .bool))) (.d (.list (l.map .bool))) = some false := by
 have h := bools_lay l
 have ok : okD (.list (l.map .bool)) = true := Bool.and_eq_true_iff.mpr ⟨h.1, decide_eq_true (Nat.le_trans (Nat.le_of_eq (congrArg (· + 1) h.2.1)) (by decide))⟩
 show notO (if okD (.list (l.map .bool)) && okD (.list (l.map .bool)) then some (PyData.eqvAll (l.map .bool) (l.map .bool)) else none) = _
 rw [ok, h.2.2]; rfl
theorem for_inv {α : Type} {r : Rec} {sc : Scope} {tgt : Expr} {body : List Stmt} (e : α -> PyData) (I : List α -> Loc -> Sto -> Prop) (l : List α) : ∀ (ρ : Loc) (μ : Sto) (Z : FX), forM r sc tgt body (l.map e) ρ μ = Z -> I l ρ μ ->
   (∀ x l ρ μ, I (x :: l) ρ μ -> ∃ ρ1 ρ' μ', bindT sc true tgt (e x) ρ = some ρ1 /\ r.exs sc body ρ1 μ = some (.next, ρ', μ') /\ I l ρ' μ') -> ∃ ρ' μ', Z = some (.next, ρ', μ') /\ I [] ρ' μ' := by
 induction l with
 | nil => exact fun ρ μ Z hZ hI _ => ⟨ρ, μ, hZ.symm, hI⟩
 | cons x l ih =>
   intro ρ μ Z hZ hI h
   obtain ⟨ρ1, ρ2, μ2, h1, h2, h3⟩ := h x l ρ μ hI
   exact ih ρ2 μ2 Z ((fm_next h1 h2).symm.trans hZ) h3 h
theorem OS.keep {F : Tm -> Tm -> Bool} {U : List Tm} {C : Addr} {j k q : Nat} {h : Option Nat} {rs : List (Str × Int)} {μ μ' : Sto} (o : OS F U C j k h rs μ) (s : Same q μ μ') (h1 : j ≠ q) (h2 : k ≠ q) (h3 : ∀ i, h = some i -> i ≠ q) : OS F U C j k h rs μ' := by
 obtain ⟨l, hl, ml⟩ := o.memo
 exact ⟨s.get o.at_ h1, o.cls, fun i e => ⟨s.get (o.wt i e).1 (h3 i e), (o.wt i e).2⟩, o.ne, l, s.get hl h2, ml⟩
theorem IsRn.keep {q i : Nat} {rs : List (Str × Int)} {μ μ' : Sto} (h : IsRn μ (.obj i) rs) (s : Same q μ μ') (hi : i ≠ q) : IsRn μ' (.obj i) rs := by
 refine ⟨?_, h.2⟩
 have h1 : (μ[i]?).bind dictO = _ := h.1
 show (μ'[i]?).bind dictO = _
 cases hm : μ[i]? with
 | none => rw [hm] at h1; exact no_some h1
 | some m => rw [s.get hm hi]; rw [hm] at h1; exact h1
theorem tup2_okd {s t : Tm} (hs : s.ht <= 2) (ht : t.ht <= 2) : okd (.tuple [s.enc, t.enc]) 60 := by
 refine (okd_tuple (k := 3) fun x hx => ?_).mono (by decide)
 rcases List.mem_cons.mp hx with rfl | hx
 · exact (enc_ok s).mono (Nat.succ_le_succ hs)
 · exact List.mem_singleton.mp hx ▸ (enc_ok t).mono (Nat.succ_le_succ ht)
theorem due_ne {μ : Sto} {F : Tm -> Tm -> Bool} {s t : Tm} (hs : s.ht <= 2) (ht : t.ht <= 2) : cmpM μ .NotEq (.d (turnD F s t)) (.d (turnD F s t)) = some false := by
 have q : okd (turnD F s t) 60 := by
   unfold turnD
   cases F s t with
   | true => exact tup2_okd hs ht
   | false => cases F t s with
     | true => exact tup2_okd ht hs
     | false => exact okd_none _
 exact cmp_ne (b := true) q q ⟨fun _ => rfl, fun _ => rfl⟩
theorem ne_bool {μ : Sto} (b : Bool) : cmpM μ .NotEq (.d (.bool b)) (.d (.bool b)) = some false := by cases b <;> rfl
theorem ctor_path {n : Nat} {μ : Sto} {rs : List (Str × Int)} : (Lvl PP (n + 1)).call (.con (.ref 117)) [.dict (rnD rs)] μ = some (.inst 117 μ.length, μ ++ [.attrs (atsOf none rs (μ.length + 1)), .dict []]) := rfl
theorem ctor_weight {n i : Nat} {μ : Sto} {rs : List (Str × Int)} (h : μ[i]? = some (.dict [])) : (Lvl PP (n + 1)).call (.con (.ref 150)) [.obj i, .dict (rnD rs)] μ = some (.inst 150 μ.length, μ ++ [.attrs (atsOf (some i) rs (μ.length + 1)), .dict []]) := by
 show ((μ[i]?).bind dictO).bind _ = _
 rw [h]; rfl
theorem ty_dict {μ : Sto} {i : Nat} {rs : List (Str × Int)} (h : μ[i]? = some (.dict (rnD rs))) (hl : rs.length <= 1000) : builtinM μ (.type "dict") [.obj i] = some (.dict (rnD rs), μ) := by
 show ((μ[i]?).bind dictO).bind _ = _
 rw [h]
 show (if strKeys (rnD rs) && decide ((rnD rs).length <= 1000) then some (V.dict (rnD rs), μ) else none) = _
 rw [rn_keys, show (rnD rs).length = rs.length from List.length_map .., decide_eq_true hl]; rfl
theorem rev_lst {l : List PyData} (h : smallLen l = true) : sliceM (.d (.list l)) none none (some (.d (.int (-1)))) = some (.d (.list l.reverse)) := by
 show (if smallLen l then _ else _) = _
 rw [h]; rfl
theorem take_lst {l : List PyData} (h : smallLen l = true) : sliceM (.d (.list l)) none (some (.d (.int 40))) none = some (.d (.list (l.take 40))) := by
 show (if smallLen l then _ else _) = _
 rw [h]; rfl
theorem inside_self (t : Tm) : t ∈ insideOf t := by
 cases t with
 | leaf l => exact List.mem_cons_self ..
 | un u s => exact addNew_mem.mpr (.inl (List.mem_cons_self ..))
 | bin v s t => exact addNew_mem.mpr (.inl (addNew_mem.mpr (.inl (List.mem_cons_self ..))))
theorem inside_kids (t : Tm) : ∀ x : Tm, x ∈ insideOf t -> ∀ k ∈ x.kids, k ∈ insideOf t := by
 induction t with
 | leaf l => exact fun x h k hk => by rw [List.mem_singleton.mp h] at hk; exact nomatch hk
 | un u s ih =>
   intro x h k hk
   refine addNew_mem.mpr (.inr ?_)
   rcases addNew_mem.mp h with h | h
   · rw [List.mem_singleton.mp h] at hk
     rw [List.mem_singleton.mp hk]; exact inside_self _
   · exact ih x h k hk
 | bin v s t h1 h2 =>
   intro x h k hk
   rcases addNew_mem.mp h with h | h
   · refine addNew_mem.mpr ?_
     rcases addNew_mem.mp h with h | h
     · rw [List.mem_singleton.mp h] at hk
       rcases List.mem_cons.mp hk with rfl | hk
       · exact .inl (addNew_mem.mpr (.inr (inside_self _)))
       · rw [List.mem_singleton.mp hk]; exact .inr (inside_self _)
     · exact .inl (addNew_mem.mpr (.inr (h1 x h k hk)))
   · exact addNew_mem.mpr (.inr (h2 x h k hk))
theorem uni_of {a b : Tm} (ha : a.ht <= 2) (hb : b.ht <= 2) : Uni (addNew (insideOf a) (insideOf b)) := by
 refine ⟨fun s hs k hk => ?_, fun s hs => ?_, ?_⟩
 · exact addNew_mem.mpr ((addNew_mem.mp hs).imp (fun h => inside_kids a s h k hk) fun h => inside_kids b s h k hk)
 · exact (addNew_mem.mp hs).elim (fun h => Nat.le_trans (inside_ht a s h) ha) fun h => Nat.le_trans (inside_ht b s h) hb
 · unfold addNew
   rw [List.length_append]
   exact Nat.le_trans (Nat.add_le_add (inside_len a ha) (Nat.le_trans (List.length_filter_le ..) (inside_len b hb))) (by decide)
structure TOk (T : Loc) : Prop where
 no : ∀ k, (k == ("op" : Str) || k == ("rank" : Str)) = false -> T.lookup k = none
theorem lk_app {T l : Loc} {k : Str} (hT : TOk T) (h : (k == ("op" : Str) || k == ("rank" : Str)) = false) : (T ++ l).lookup k = l.lookup k := by
 have := hT.no k h
 clear hT
 induction T with
 | nil => rfl
 | cons a T ih =>
   obtain ⟨a, v⟩ := a
   rw [List.lookup_cons] at this
   rw [List.cons_append, List.lookup_cons]
   cases hk : (k == a) with
   | true => rw [hk] at this; exact some_no this
   | false => rw [hk] at this; exact ih this
theorem set_app {T l : Loc} {k : Str} {v : V} (hT : TOk T) (h : (k == ("op" : Str) || k == ("rank" : Str)) = false) : setL k v (T ++ l) = T ++ setL k v l := by
 have := hT.no k h
 clear hT
 induction T with
 | nil => rfl
 | cons a T ih =>
   obtain ⟨a, u⟩ := a
   rw [List.lookup_cons] at this
   rw [List.cons_append]
   cases hk : (k == a) with
   | true => rw [hk] at this; exact some_no this
   | false =>
     rw [hk] at this
     have hk' : (a == k) = false := beq_eq_false_iff_ne.mpr fun e => beq_eq_false_iff_ne.mp hk e.symm
     rw [set_miss hk', ih this]; rfl
theorem drop_app {sc : Scope} {T l : Loc} : dropL sc (T ++ l) = dropL sc T ++ dropL sc l := by
 unfold dropL; exact List.filter_append ..
theorem drop_ok {sc : Scope} {T : Loc} (hT : TOk T) : TOk (dropL sc T) := by
 refine ⟨fun k h => ?_⟩
 have := hT.no k h
 clear hT
 unfold dropL
 induction T with
 | nil => rfl
 | cons a T ih =>
   obtain ⟨a, u⟩ := a
   rw [List.lookup_cons] at this
   cases hk : (k == a) with
   | true => rw [hk] at this; exact some_no this
   | false =>
     rw [hk] at this
     rw [List.filter_cons]
     cases (!(sc.names.lookup a == some .local)) with
     | true => exact (List.lookup_cons ..).trans (by rw [hk]; exact ih this)
     | false => exact ih this
theorem cok3 {csc sc0 : Scope} {a b c : Str × V} {T B : Loc} (h : compOkS csc sc0 (a.1 :: b.1 :: c.1 :: B.map (·.1)) = true) {α : Type} {x y : α} : (if (!compOk csc ⟨sc0, a :: b :: c :: (T ++ B)⟩) = true then x else y) = y := by
 have : compOk csc ⟨sc0, a :: b :: c :: (T ++ B)⟩ = true := by
   rw [cok_eq]
   refine Bool.and_eq_true_iff.mpr ⟨(and_t h).1, List.all_eq_true.mpr fun p hp => ?_⟩
   have hq := and_t (List.all_eq_true.mp (and_t h).2 p hp)
   refine Bool.and_eq_true_iff.mpr ⟨hq.1, ?_⟩
   have hq := hq.2
   unfold compKS at hq ⊢
   cases hk : p.2 with
   | free =>
     rw [hk] at hq
     refine Bool.and_eq_true_iff.mpr ⟨List.contains_iff_mem.mpr ?_, (and_t hq).2⟩
     have hm := List.contains_iff_mem.mp (and_t hq).1
     refine ((List.Sublist.cons_cons _ (.cons_cons _ (.cons_cons _ ?_))).subset hm : p.1 ∈ a.1 :: b.1 :: c.1 :: (T ++ B).map (·.1))
     rw [List.map_append]
     exact List.sublist_append_right ..
   | «local» => rfl
   | globalImplicit => rfl
   | _ => rw [hk] at hq; exact no_ft hq
 rw [this]; rfl
theorem bt_name {sc : Scope} {n : Str} {p : Pos} {x : PyData} {ρ : Loc} (h1 : okN sc false n = true) (h2 : ρ.lookup n = none) : bindT sc false (.Name n p) x ρ = some (setL n (.d x) ρ) := by
 show (if okN sc false n && (false || (ρ.lookup n).isNone) then _ else _) = _
 rw [h1, h2]; rfl
theorem bt_pair {sc : Scope} {a b : Str} {pa pb p : Pos} {k : Nat} {u v : PyData} {ρ : Loc} (h : (a != b && okN sc false a && okN sc false b) = true) (h1 : ρ.lookup a = none) (h2 : ρ.lookup b = none) : bindT sc false (.Tuple [.Name a pa, .Name b pb] k p) (.tuple [u, v]) ρ = some (setL b (.d v) (setL a (.d u) ρ)) := by
 show (if a != b && okN sc false a && okN sc false b && (false || ((ρ.lookup a).isNone && (ρ.lookup b).isNone)) then _ else _) = _
 rw [h, h1, h2]; rfl
noncomputable def noOR (B : Loc) : Bool := B.all fun p => !(p.1 == ("op" : Str) || p.1 == ("rank" : Str))
section
variable {P : Par} {n : Nat} {T B B' : Loc} {a b c : Str × V} {sc : Scope} {x : Str} {v : V} {e : Expr} {μ : Sto} {q p : Pos}
theorem lkT (hT : TOk T) (hB : noOR (a :: b :: c :: B) = true) (h : List.lookup x (a :: b :: c :: B) = some v) : List.lookup x (a :: b :: c :: (T ++ B)) = some v := by
 have hk := lk_app (l := B) hT (not_t (List.all_eq_true.mp hB _ (lookup_mem' h)))
 rw [List.lookup_cons] at h ⊢
 cases h1 : x == a.1 with
 | true => rw [h1] at h; exact h
 | false =>
   rw [h1] at h
   have h : List.lookup x (b :: c :: B) = some v := h
   show List.lookup x (b :: c :: (T ++ B)) = some v
   rw [List.lookup_cons] at h ⊢
   cases h1 : x == b.1 with
   | true => rw [h1] at h; exact h
   | false =>
     rw [h1] at h
     have h : List.lookup x (c :: B) = some v := h
     show List.lookup x (c :: (T ++ B)) = some v
     rw [List.lookup_cons] at h ⊢
     cases h1 : x == c.1 with
     | true => rw [h1] at h; exact h
     | false => rw [h1] at h; exact hk.trans h
theorem nameT (hT : TOk T) (hB : noOR (a :: b :: c :: B) = true) (h : nameM P ⟨sc, a :: b :: c :: B⟩ x = some v) : nameM P ⟨sc, a :: b :: c :: (T ++ B)⟩ x = some v := by
 unfold nameM at h ⊢
 by_cases hd : (x == ("__debug__" : Str)) = true
 · rw [if_pos hd] at h; exact no_some h
 · rw [if_neg hd] at h ⊢
   refine bind1 h fun k hk h => ?_
   show (sc.names.lookup x).bind _ = _
   rw [show sc.names.lookup x = some k from hk]
   cases k <;> first | exact lkT hT hB h | exact h
theorem pure1T (hT : TOk T) (hB : noOR (a :: b :: c :: B) = true) (h : pure1 P ⟨sc, a :: b :: c :: B⟩ e = some v) : pure1 P ⟨sc, a :: b :: c :: (T ++ B)⟩ e = some v := by
 unfold pure1 at h ⊢
 cases hn : nameOf e with
 | some x => rw [hn] at h; exact nameT hT hB h
 | none => rw [hn] at h; exact h
theorem pure1sT (hT : TOk T) (hB : noOR (a :: b :: c :: B) = true) {l : List Expr} : ∀ {vs : List V}, pure1s P ⟨sc, a :: b :: c :: B⟩ l = some vs -> pure1s P ⟨sc, a :: b :: c :: (T ++ B)⟩ l = some vs := by
 induction l with
 | nil => exact fun h => h
 | cons e l ih =>
   exact fun h => bind1 h fun v h1 h2 => bind1 h2 fun ws h3 h4 => by
     show (pure1 P _ e).bind _ = _
     rw [pure1T hT hB h1]
     show (pure1s P _ l).bind _ = _
     rw [ih h3]; exact h4
theorem pureT (hT : TOk T) (hB : noOR (a :: b :: c :: B) = true) (h : pureE P ⟨sc, a :: b :: c :: B⟩ e = some v) : pureE P ⟨sc, a :: b :: c :: (T ++ B)⟩ e = some v := by
 unfold pureE at h ⊢
 cases ht : tupE e with
 | none => rw [ht] at h; exact pure1T hT hB h
 | some l =>
   rw [ht] at h
   exact if_some h fun hl h => bind1 h fun vs h1 h => by
     show (if decide (l.length < 100) then (pure1s P _ l).bind _ else none) = _
     rw [if_pos hl, pure1sT hT hB h1]; exact h
theorem pureTs (hT : TOk T) (hB : noOR (a :: b :: c :: B) = true) {l : List Expr} : ∀ {vs : List V}, pureEs P ⟨sc, a :: b :: c :: B⟩ l = some vs -> pureEs P ⟨sc, a :: b :: c :: (T ++ B)⟩ l = some vs := by
 induction l with
 | nil => exact fun h => h
 | cons e l ih =>
   exact fun h => bind1 h fun v h1 h2 => bind1 h2 fun ws h3 h4 => by
     show (pureE P _ e).bind _ = _
     rw [pureT hT hB h1]
     show (pureEs P _ l).bind _ = _
     rw [ih h3]; exact h4
theorem setT (hT : TOk T) (hk : (x == ("op" : Str) || x == ("rank" : Str)) = false) (h1 : (a.1 == x) = false) (h2 : (b.1 == x) = false) (h3 : (c.1 == x) = false) (h : forceL (setL x v B) = some B') : setL x v (a :: b :: c :: (T ++ B)) = a :: b :: c :: (T ++ B') := by
 rw [show a = (a.1, a.2) from rfl, set_miss h1, show b = (b.1, b.2) from rfl, set_miss h2, show c = (c.1, c.2) from rfl, set_miss h3, set_app hT hk, force_eq h]
theorem b_asT (h0 : okN sc true x = true) (hT : TOk T) (hk : (x == ("op" : Str) || x == ("rank" : Str)) = false) (h1 : (a.1 == x) = false) (h2 : (b.1 == x) = false) (h3 : (c.1 == x) = false) (h : forceL (setL x v B) = some B') : (some (v, μ)).bind (kAs sc x (a :: b :: c :: (T ++ B))) = some (.next, a :: b :: c :: (T ++ B'), μ) := by
 rw [b_as' h0, setT hT hk h1 h2 h3 h]
theorem dropT {sc : Scope} (h1 : (sc.names.lookup a.1 == some .local) = false) (h2 : (sc.names.lookup b.1 == some .local) = false) (h3 : (sc.names.lookup c.1 == some .local) = false) (h : forceL (dropL sc B) = some B') : dropL sc (a :: b :: c :: (T ++ B)) = a :: b :: c :: (dropL sc T ++ B') := by
 rw [show a = (a.1, a.2) from rfl, drop_keep h1, show b = (b.1, b.2) from rfl, drop_keep h2, show c = (c.1, c.2) from rfl, drop_keep h3, drop_app, force_eq h]
end
noncomputable def lawF : FnI := (nthFn 22).getD ⟨[], [], default⟩
noncomputable def Ends (n : Nat) (ρ : Loc) (μ : Sto) : Prop := ∃ ρ' μ', stepExs PP (Lvl PP 498) lawF.sc (lawF.body.drop n) ρ μ = some (.ret (.d (.bool true)), ρ', μ')
end Mine.L
end
section
namespace Mine.L
open PySem
noncomputable def lT (T : Loc) (sv : V) (l : Loc) : Loc := (("script" : Str), sv) :: (("cup" : Str), V.obj 0) :: (("ranks" : Str), V.obj 1) :: (T ++ l)
section
variable {T : Loc} {sv : V} {U : List Tm} {K : List (Tm × Tm)} {rs : List (Str × Int)} {a b : Tm}
noncomputable def boolsOf (f : Tm -> Tm -> Bool) (ps : List (Tm × Tm)) : PyData := .list ((ps.map fun p => f p.1 p.2).map .bool)
noncomputable def lB (a b : Tm) (U : List Tm) (K : List (Tm × Tm)) (rs : List (Str × Int)) (l : Loc) : Loc := (("one" : Str), V.d a.enc) :: (("other" : Str), V.d b.enc) :: (("some" : Str), V.d (.list (U.map Tm.enc))) :: (("known" : Str), V.dict (tabD (tabT K))) :: (("order" : Str), V.inst 117 3) :: (("anew" : Str), V.inst 117 5) ::
 (("pairs" : Str), V.d (.list ((pairsOf U).map kp))) :: (("told" : Str), V.d (boolsOf (PR rs) (pairsOf U))) :: l
theorem seg11 {q : Nat} (hT : TOk T) (hU : Uni U) (hK : ∀ s ∈ U, ∀ t ∈ U, memK K s t = PR rs s t) {μ : Sto} (hr : IsRn μ (.obj 1) rs) (o : OS (PR rs) U 117 3 4 none rs μ) : Ends 11 (lT T sv (lB a b U K rs [(("scales" : Str), V.inst 150 q)])) μ := by
 unfold Ends
 rw [show lawF.body.drop 11 = _ :: _ :: [] from rfl, show lawF.sc = ⟨_, _, _, _, _⟩ from rfl]
 simp -implicitDefEqProofs (disch := first | exact keq rfl | decide | exact Nat.le_trans (by decide) (Nat.le_add_left _ _) | exact Nat.le_add_right_of_le (Nat.le_trans (by decide) (Nat.le_add_left _ _)) | exact pureT hT rfl rfl | exact pureTs hT rfl rfl | exact pureT ok1 rfl rfl | exact pureTs ok1 rfl rfl | exact pureT ok2 rfl rfl | exact pureTs ok2 rfl rfl | exact pureT ok3 rfl rfl | exact pureTs ok3 rfl rfl | exact pureT hT hno rfl | exact pureTs hT hno rfl | assumption | exact hset _ | fail) only [↓pureE_ok, ↓pureEs_ok, ↓d_evs, ↓d_tuple, b_asT, ↓c_lc1', ↓c_lc2', dropT, cok3, ↓d_call, ↓p_call, ↓d_meth, ↓p_meth, ↓d_attr, ↓p_attr, ↓d_cmp, ↓p_cmp, ↓d_tcmp, ↓p_tcmp, ↓d_sl1, ↓p_sl1, ↓d_sl2, ↓p_sl2, ↓d_item, ↓p_item, ↓d_bin, ↓p_bin, ↓d_it, ↓p_it, ↓d_lazy, ↓p_lazy, ↓d_ret, ↓p_ret, ↓d_as, b_call, b_m1, b_m2, b_at, b_v, b_d, b_c1, b_c2, b_c3, b_t1, b_t2, b_t3, ↓c_sl3, b_s, b_i, ↓c_itemC, b_i1, b_i2, b_b1, b_b2, ↓c_neg, ↓c_if, b_if, ↓c_dict, ↓c_list, b_l, ↓c_listm, b_lm, b_tu, ↓c_evs0, b_e1, b_e2, ↓c_bool, ↓c_bo1, ↓c_bo2, b_and, b_or, ↓c_lc, b_lc, b_lc2, b_ld, b_itl, b_itt, b_lz, b_lw, ↓c_itc, ↓c_not, b_not, ↓c_tbool, ↓c_or0, ↓c_and0, ↓c_or, ↓c_and, b_ao, b_aa, ↓c_tcall, b_tb, ↓c_ts0, ↓c_ts, b_ts, ↓exs_then, ↓c_exs0, b_next, b_ret, b_kret, ↓x_alc, ↓x_tt, b_tt, b_nx, ba_nil, ba_cons, ↓x_ti, b_ti, ↓x_store, b_st1, b_st2, b_st3, b_st4, ↓x_if, b_ifs, ↓x_for, b_for, ↓x_while, ↓x_expr, b_ex, b_fnr, b_fnn, ↓lvl_exz, ↓lvl_exs, call_bi, call_ty, freeze_d, ↓if_tt, ↓if_ff, if_true, if_false, Bool.not_true, Bool.not_false, lT, lB]
 generalize hZ : forM _ _ _ _ _ _ _ = Z
 have hq := for_inv kp (fun l ρ μ => (∃ tl, ρ = lT T sv (lB a b U K rs ((("scales" : Str), V.inst 150 q) :: tl)) /\ (tl = [] \/ ∃ u v d, tl = [(("s" : Str), u), (("t" : Str), v), (("due" : Str), d)])) /\ IsRn μ (.obj 1) rs /\ OS (PR rs) U 117 3 4 none rs μ /\ ∀ p ∈ l, p ∈ pairsOf U)
   (pairsOf U) _ μ Z hZ ⟨⟨[], rfl, .inl rfl⟩, hr, o, fun _ h => h⟩ ?_
 · obtain ⟨ρ', μ', rfl, _⟩ := hq
   exact ⟨ρ', μ', rfl⟩
 · clear hr o hZ
   rintro ⟨s, t⟩ l ρ μ ⟨⟨tl, rfl, htl⟩, hr, o, hl⟩
   obtain ⟨hs, ht⟩ := mem_pairs.mp (hl (s, t) (List.mem_cons_self ..))
   simp only at hs ht
   have hsh := hU.ht s hs
   have hth := hU.ht t ht
   obtain ⟨D, hb, hno, hset⟩ : ∃ D : Loc, (setL "t" (.d t.enc) (setL "s" (.d s.enc) tl) = (("s" : Str), V.d s.enc) :: (("t" : Str), V.d t.enc) :: D) /\
       noOR ((("script" : Str), sv) :: (("cup" : Str), V.obj 0) :: (("ranks" : Str), V.obj 1) :: lB a b U K rs ((("scales" : Str), V.inst 150 q) :: (("s" : Str), V.d s.enc) :: (("t" : Str), V.d t.enc) :: D)) = true /\
       ∀ v, forceL (setL "due" v (lB a b U K rs ((("scales" : Str), V.inst 150 q) :: (("s" : Str), V.d s.enc) :: (("t" : Str), V.d t.enc) :: D))) = some (lB a b U K rs ((("scales" : Str), V.inst 150 q) :: (("s" : Str), V.d s.enc) :: (("t" : Str), V.d t.enc) :: [(("due" : Str), v)])) := by
     rcases htl with rfl | ⟨u, v, d, rfl⟩
     · exact ⟨[], rfl, rfl, fun _ => rfl⟩
     · exact ⟨[(("due" : Str), d)], rfl, rfl, fun _ => rfl⟩
   refine ⟨lT T sv (lB a b U K rs ((("scales" : Str), V.inst 150 q) :: (("s" : Str), V.d s.enc) :: (("t" : Str), V.d t.enc) :: D)), ?_⟩
   have hbind : ∀ {sc : Scope} {pa pb p : Pos} {k : Nat}, (("s" : Str) != "t" && okN sc true "s" && okN sc true "t") = true -> bindT sc true (.Tuple [.Name "s" pa, .Name "t" pb] k p) (kp (s, t)) (lT T sv (lB a b U K rs ((("scales" : Str), V.inst 150 q) :: tl))) =
       some (lT T sv (lB a b U K rs ((("scales" : Str), V.inst 150 q) :: (("s" : Str), V.d s.enc) :: (("t" : Str), V.d t.enc) :: D))) := by
     intro sc pa pb p k h
     rw [kp, bp_pair h, <- hb]
     simp (disch := decide) only [lT, lB, set_miss, set_app hT]
   obtain ⟨μ1, o1, s1, e1⟩ := turned_fn (N := 300) (fun M hM => path_above hU 4 s t hs ht (by omega) M hM) (fun M hM => path_above hU 4 t s ht hs (by omega) M hM) 494 (by decide) o
   have hr1 := hr.keep s1 (by decide)
   have hin : ∀ μ : Sto, ∀ x y : Tm, x ∈ U -> y ∈ U -> cmpM μ .In (.d (.tuple [x.enc, y.enc])) (.dict (tabD (tabT K))) = some (PR rs x y) := fun μ x y hx hy => by
     have h := in_tab (μ := μ) (p := (x, y)) (kd := .dict (tabD (tabT K))) (l := tabT K) rfl (Nat.le_succ_of_le (hU.ht x hx)) (Nat.le_succ_of_le (hU.ht y hy))
     rw [<- hK x hx y hy, <- memT]; exact h
   have hst := fun μ => hin μ s t hs ht
   have hts := fun μ => hin μ t s ht hs
   refine ⟨lT T sv (lB a b U K rs ((("scales" : Str), V.inst 150 q) :: (("s" : Str), V.d s.enc) :: (("t" : Str), V.d t.enc) :: [(("due" : Str), V.d (turnD (PR rs) s t))])), μ1, hbind (by decide), ?_, ⟨_, rfl, .inr ⟨_, _, _, rfl⟩⟩, hr1, o1, fun p hp => hl p (List.mem_cons_of_mem _ hp)⟩
   have hdue := due_ne (μ := μ1) (F := PR rs) hsh hth
   have hnb := ne_bool (μ := μ1) (gtK (hdK rs t) (hdK rs s))
   have hd : (if PR rs s t = true then some (V.d (PyData.tuple [s.enc, t.enc]), μ) else if PR rs t s = true then some (V.d (PyData.tuple [t.enc, s.enc]), μ) else some (V.d PyData.none, μ)) = some (.d (turnD (PR rs) s t), μ) := by
     unfold turnD
     cases PR rs s t <;> cases PR rs t s <;> rfl
   have has : PR rs s t = true -> PR rs t s = false := R_asymm (hdK rs) gtK gtK_irr gtK_tr s t
   have hand : (if PR rs s t = true then if PR rs t s = true then some (true, μ1) else some (false, μ1) else some (false, μ1)) = some (false, μ1) := by
     cases h : PR rs s t with
     | true => rw [has h]; rfl
     | false => rfl
   dsimp only [lB] at hno hset
   simp -implicitDefEqProofs (disch := first | exact keq rfl | decide | exact Nat.le_trans (by decide) (Nat.le_add_left _ _) | exact Nat.le_add_right_of_le (Nat.le_trans (by decide) (Nat.le_add_left _ _)) | exact pureT hT rfl rfl | exact pureTs hT rfl rfl | exact pureT ok1 rfl rfl | exact pureTs ok1 rfl rfl | exact pureT ok2 rfl rfl | exact pureTs ok2 rfl rfl | exact pureT ok3 rfl rfl | exact pureTs ok3 rfl rfl | exact pureT hT hno rfl | exact pureTs hT hno rfl | assumption | exact hset _ | fail) only [↓pureE_ok, ↓pureEs_ok, ↓d_evs, ↓d_tuple, b_asT, ↓c_lc1', ↓c_lc2', dropT, cok3, ↓d_call, ↓p_call, ↓d_meth, ↓p_meth, ↓d_attr, ↓p_attr, ↓d_cmp, ↓p_cmp, ↓d_tcmp, ↓p_tcmp, ↓d_sl1, ↓p_sl1, ↓d_sl2, ↓p_sl2, ↓d_item, ↓p_item, ↓d_bin, ↓p_bin, ↓d_it, ↓p_it, ↓d_lazy, ↓p_lazy, ↓d_ret, ↓p_ret, ↓d_as, b_call, b_m1, b_m2, b_at, b_v, b_d, b_c1, b_c2, b_c3, b_t1, b_t2, b_t3, ↓c_sl3, b_s, b_i, ↓c_itemC, b_i1, b_i2, b_b1, b_b2, ↓c_neg, ↓c_if, b_if, ↓c_dict, ↓c_list, b_l, ↓c_listm, b_lm, b_tu, ↓c_evs0, b_e1, b_e2, ↓c_bool, ↓c_bo1, ↓c_bo2, b_and, b_or, ↓c_lc, b_lc, b_lc2, b_ld, b_itl, b_itt, b_lz, b_lw, ↓c_itc, ↓c_not, b_not, ↓c_tbool, ↓c_or0, ↓c_and0, ↓c_or, ↓c_and, b_ao, b_aa, ↓c_tcall, b_tb, ↓c_ts0, ↓c_ts, b_ts, ↓exs_then, ↓c_exs0, b_next, b_ret, b_kret, ↓x_alc, ↓x_tt, b_tt, b_nx, ba_nil, ba_cons, ↓x_ti, b_ti, ↓x_store, b_st1, b_st2, b_st3, b_st4, ↓x_if, b_ifs, ↓x_for, b_for, ↓x_while, ↓x_expr, b_ex, b_fnr, b_fnn, ↓lvl_exz, ↓lvl_exs, call_bi, call_ty, freeze_d, ↓if_tt, ↓if_ff, if_true, if_false, Bool.not_true, Bool.not_false, lT, lB, hst, hts, hd, e1, hdue, hand, place_fn _ hr1, head_fn _ hr1, lt_tup, lt_lst, hnb]
end
end Mine.L
end
section
namespace Mine.L
open PySem
section
variable {T : Loc} {sv : V} {U : List Tm} {K : List (Tm × Tm)} {rs : List (Str × Int)} {a b : Tm}
theorem bt_pair' {sc : Scope} {a b : Str} {pa pb p : Pos} {k : Nat} {u v : PyData} {ρ : Loc} : bindT sc false (.Tuple [.Name a pa, .Name b pb] k p) (.tuple [u, v]) ρ = if (a != b && okN sc false a && okN sc false b && (false || ((ρ.lookup a).isNone && (ρ.lookup b).isNone))) = true then some (setL b (.d v) (setL a (.d u) ρ)) else none := rfl
theorem bt_name' {sc : Scope} {n : Str} {p : Pos} {x : PyData} {ρ : Loc} : bindT sc false (.Name n p) x ρ = if (okN sc false n && (false || (ρ.lookup n).isNone)) = true then some (setL n (.d x) ρ) else none := rfl
theorem if_dec {c : Bool} (h : c = true) {α : Type} {x y : α} : (if c = true then x else y) = x := by rw [h]; rfl
theorem memo0 (F : Tm -> Tm -> Bool) (U : List Tm) : MemoOk F U [] := ⟨fun _ h => (List.not_mem_nil h).elim, List.nodup_nil⟩
theorem isrn_of {μ : Sto} {i : Nat} (h : μ[i]? = some (.dict (rnD rs))) : IsRn μ (.obj i) rs := by
 refine ⟨?_, fun C j h => nomatch h⟩
 show (μ[i]?).bind dictO = _
 rw [h]; rfl
theorem filter_true {α : Type} (l : List α) : l.filter (fun _ => true) = l := List.filter_eq_self.mpr fun _ _ => rfl
theorem bools_eq (f : Tm -> Tm -> Bool) (ps : List (Tm × Tm)) : (ps.map fun p => PyData.bool (f p.1 p.2)) = (ps.map fun p => f p.1 p.2).map .bool := by rw [List.map_map]; rfl
theorem seg9 (hT : TOk T) (hU : Uni U) (hK : ∀ s ∈ U, ∀ t ∈ U, memK K s t = PR rs s t) {μ : Sto} (h1 : μ[1]? = some (.dict (rnD rs))) (hrl : rs.length <= 1000) (o : OS (PR rs) U 117 3 4 none rs μ) : Ends 9 (lT T sv (lB a b U K rs [])) μ := by
 have hn4 : 5 <= μ.length := by obtain ⟨l, hl, _⟩ := o.memo; exact (List.getElem?_eq_some_iff.mp hl).1
 have hd1 : (μ ++ [MO.dict []])[1]? = some (.dict (rnD rs)) := by rw [List.getElem?_append_left (by omega), h1]
 have hd7 : (μ ++ [MO.dict []])[μ.length]? = some (.dict []) := get_mid
 have hl1 : (μ ++ [MO.dict []]).length = μ.length + 1 := by simp
 have hct := fun n => ctor_weight (n := n) (rs := rs) hd7
 rw [hl1] at hct
 have hty := ty_dict hd1 hrl
 have o2 : OS (PR rs) U 117 3 4 none rs (μ ++ [MO.dict []] ++ [.attrs (atsOf (some μ.length) rs (μ.length + 1 + 1)), .dict []]) := o.app.app
 have w2 : OS (WR rs) U 150 (μ.length + 1) (μ.length + 1 + 1) (some μ.length) rs (μ ++ [MO.dict []] ++ [.attrs (atsOf (some μ.length) rs (μ.length + 1 + 1)), .dict []]) := by
   refine ⟨?_, .inr rfl, fun i hi => ?_, by omega, [], ?_, memo0 _ _⟩
   · rw [<- hl1]; exact get_mid
   · cases hi; exact ⟨by rw [List.getElem?_append_left (by omega), hd7], by omega⟩
   · rw [<- hl1, List.getElem?_append_right (by omega), Nat.add_sub_cancel_left]; rfl
 have r2 : (μ ++ [MO.dict []] ++ [.attrs (atsOf (some μ.length) rs (μ.length + 1 + 1)), .dict []])[1]? = some (.dict (rnD rs)) := by rw [List.getElem?_append_left (by omega), hd1]
 generalize hμ2 : μ ++ [MO.dict []] ++ [.attrs (atsOf (some μ.length) rs (μ.length + 1 + 1)), .dict []] = μ2 at o2 w2 r2
 unfold Ends
 rw [show lawF.body.drop 9 = _ :: _ :: lawF.body.drop 11 from rfl, show lawF.sc = ⟨_, _, _, _, _⟩ from rfl]
 generalize hrest : lawF.body.drop 11 = rest
 simp -implicitDefEqProofs (disch := first | exact keq rfl | decide | exact Nat.le_trans (by decide) (Nat.le_add_left _ _) | exact Nat.le_add_right_of_le (Nat.le_trans (by decide) (Nat.le_add_left _ _)) | exact pureT hT rfl rfl | exact pureTs hT rfl rfl | exact pureT ok1 rfl rfl | exact pureTs ok1 rfl rfl | exact pureT ok2 rfl rfl | exact pureTs ok2 rfl rfl | exact pureT ok3 rfl rfl | exact pureTs ok3 rfl rfl | exact pureT hT hno rfl | exact pureTs hT hno rfl | assumption | exact hset _ | fail) only [↓pureE_ok, ↓pureEs_ok, ↓d_evs, ↓d_tuple, b_asT, ↓c_lc1', ↓c_lc2', dropT, cok3, ↓d_call, ↓p_call, ↓d_meth, ↓p_meth, ↓d_attr, ↓p_attr, ↓d_cmp, ↓p_cmp, ↓d_tcmp, ↓p_tcmp, ↓d_sl1, ↓p_sl1, ↓d_sl2, ↓p_sl2, ↓d_item, ↓p_item, ↓d_bin, ↓p_bin, ↓d_it, ↓p_it, ↓d_lazy, ↓p_lazy, ↓d_ret, ↓p_ret, ↓d_as, b_call, b_m1, b_m2, b_at, b_v, b_d, b_c1, b_c2, b_c3, b_t1, b_t2, b_t3, ↓c_sl3, b_s, b_i, ↓c_itemC, b_i1, b_i2, b_b1, b_b2, ↓c_neg, ↓c_if, b_if, ↓c_dict, ↓c_list, b_l, ↓c_listm, b_lm, b_tu, ↓c_evs0, b_e1, b_e2, ↓c_bool, ↓c_bo1, ↓c_bo2, b_and, b_or, ↓c_lc, b_lc, b_lc2, b_ld, b_itl, b_itt, b_lz, b_lw, ↓c_itc, ↓c_not, b_not, ↓c_tbool, ↓c_or0, ↓c_and0, ↓c_or, ↓c_and, b_ao, b_aa, ↓c_tcall, b_tb, ↓c_ts0, ↓c_ts, b_ts, ↓exs_then, ↓c_exs0, b_next, b_ret, b_kret, ↓x_alc, ↓x_tt, b_tt, b_nx, ba_nil, ba_cons, ↓x_ti, b_ti, ↓x_store, b_st1, b_st2, b_st3, b_st4, ↓x_if, b_ifs, ↓x_for, b_for, ↓x_while, ↓x_expr, b_ex, b_fnr, b_fnn, ↓lvl_exz, ↓lvl_exs, call_bi, call_ty, freeze_d, ↓if_tt, ↓if_ff, if_true, if_false, Bool.not_true, Bool.not_false, lT, lB, hty, hct, hμ2]
 have hps : ∀ f : Tm -> Tm -> Bool, smallLen ((pairsOf U).map fun p => PyData.bool (f p.1 p.2)) = true := fun f => small_of (by rw [List.length_map]; exact Nat.le_trans (pairs_len hU.len) (by decide))
 generalize hT1 : dropL _ T = T1
 have ok1 : TOk T1 := hT1 ▸ drop_ok hT
 generalize hZ : compM _ _ _ _ _ _ _ = Z
 have hq := comp_invZ (I := fun μ' => OS (WR rs) U 150 (μ.length + 1) (μ.length + 1 + 1) (some μ.length) rs μ' /\ Same (μ.length + 1 + 1) μ2 μ') kp (fun p => lT T1 sv (lB a b U K rs [(("scales" : Str), V.inst 150 (μ.length + 1)), (("s" : Str), V.d p.1.enc), (("t" : Str), V.d p.2.enc)])) (fun _ => true) (fun p => .bool (WR rs p.1 p.2)) (pairsOf U) μ2 Z hZ ⟨w2, Same.refl⟩ ?_
 · obtain ⟨μ3, ⟨w3, s3⟩, rfl⟩ := hq
   clear hZ
   have o3 := o2.keep s3 (by omega) (by omega) (fun i hi => by cases hi)
   have r3 := s3.get r2 (by omega)
   rw [filter_true]
   simp -implicitDefEqProofs (disch := first | exact keq rfl | decide | exact Nat.le_trans (by decide) (Nat.le_add_left _ _) | exact Nat.le_add_right_of_le (Nat.le_trans (by decide) (Nat.le_add_left _ _)) | exact pureT hT rfl rfl | exact pureTs hT rfl rfl | exact pureT ok1 rfl rfl | exact pureTs ok1 rfl rfl | exact pureT ok2 rfl rfl | exact pureTs ok2 rfl rfl | exact pureT ok3 rfl rfl | exact pureTs ok3 rfl rfl | exact pureT hT hno rfl | exact pureTs hT hno rfl | assumption | exact hset _ | fail) only [↓pureE_ok, ↓pureEs_ok, ↓d_evs, ↓d_tuple, b_asT, ↓c_lc1', ↓c_lc2', dropT, cok3, ↓d_call, ↓p_call, ↓d_meth, ↓p_meth, ↓d_attr, ↓p_attr, ↓d_cmp, ↓p_cmp, ↓d_tcmp, ↓p_tcmp, ↓d_sl1, ↓p_sl1, ↓d_sl2, ↓p_sl2, ↓d_item, ↓p_item, ↓d_bin, ↓p_bin, ↓d_it, ↓p_it, ↓d_lazy, ↓p_lazy, ↓d_ret, ↓p_ret, ↓d_as, b_call, b_m1, b_m2, b_at, b_v, b_d, b_c1, b_c2, b_c3, b_t1, b_t2, b_t3, ↓c_sl3, b_s, b_i, ↓c_itemC, b_i1, b_i2, b_b1, b_b2, ↓c_neg, ↓c_if, b_if, ↓c_dict, ↓c_list, b_l, ↓c_listm, b_lm, b_tu, ↓c_evs0, b_e1, b_e2, ↓c_bool, ↓c_bo1, ↓c_bo2, b_and, b_or, ↓c_lc, b_lc, b_lc2, b_ld, b_itl, b_itt, b_lz, b_lw, ↓c_itc, ↓c_not, b_not, ↓c_tbool, ↓c_or0, ↓c_and0, ↓c_or, ↓c_and, b_ao, b_aa, ↓c_tcall, b_tb, ↓c_ts0, ↓c_ts, b_ts, ↓exs_then, ↓c_exs0, b_next, b_ret, b_kret, ↓x_alc, ↓x_tt, b_tt, b_nx, ba_nil, ba_cons, ↓x_ti, b_ti, ↓x_store, b_st1, b_st2, b_st3, b_st4, ↓x_if, b_ifs, ↓x_for, b_for, ↓x_while, ↓x_expr, b_ex, b_fnr, b_fnn, ↓lvl_exz, ↓lvl_exs, call_bi, call_ty, freeze_d, ↓if_tt, ↓if_ff, if_true, if_false, Bool.not_true, Bool.not_false, hps]
   generalize hT2 : dropL _ T = T2
   have ok2 : TOk T2 := hT2 ▸ drop_ok hT
   rw [comp_pure kp (fun p => lT T2 sv (lB a b U K rs [(("scales" : Str), V.inst 150 (μ.length + 1)), (("s" : Str), V.d p.1.enc), (("t" : Str), V.d p.2.enc)])) (fun _ => true) (fun p => .bool (WR rs p.1 p.2)) (pairsOf U) (fun p hp => ⟨?_, rfl, fun _ => ?_⟩)]
   · rw [filter_true]
     have hnb := ne_bools (μ := μ3) ((pairsOf U).map fun p => WR rs p.1 p.2)
     rw [<- bools_eq] at hnb
     simp -implicitDefEqProofs (disch := first | exact keq rfl | decide | exact Nat.le_trans (by decide) (Nat.le_add_left _ _) | exact Nat.le_add_right_of_le (Nat.le_trans (by decide) (Nat.le_add_left _ _)) | exact pureT hT rfl rfl | exact pureTs hT rfl rfl | exact pureT ok1 rfl rfl | exact pureTs ok1 rfl rfl | exact pureT ok2 rfl rfl | exact pureTs ok2 rfl rfl | exact pureT ok3 rfl rfl | exact pureTs ok3 rfl rfl | exact pureT hT hno rfl | exact pureTs hT hno rfl | assumption | exact hset _ | fail) only [↓pureE_ok, ↓pureEs_ok, ↓d_evs, ↓d_tuple, b_asT, ↓c_lc1', ↓c_lc2', dropT, cok3, ↓d_call, ↓p_call, ↓d_meth, ↓p_meth, ↓d_attr, ↓p_attr, ↓d_cmp, ↓p_cmp, ↓d_tcmp, ↓p_tcmp, ↓d_sl1, ↓p_sl1, ↓d_sl2, ↓p_sl2, ↓d_item, ↓p_item, ↓d_bin, ↓p_bin, ↓d_it, ↓p_it, ↓d_lazy, ↓p_lazy, ↓d_ret, ↓p_ret, ↓d_as, b_call, b_m1, b_m2, b_at, b_v, b_d, b_c1, b_c2, b_c3, b_t1, b_t2, b_t3, ↓c_sl3, b_s, b_i, ↓c_itemC, b_i1, b_i2, b_b1, b_b2, ↓c_neg, ↓c_if, b_if, ↓c_dict, ↓c_list, b_l, ↓c_listm, b_lm, b_tu, ↓c_evs0, b_e1, b_e2, ↓c_bool, ↓c_bo1, ↓c_bo2, b_and, b_or, ↓c_lc, b_lc, b_lc2, b_ld, b_itl, b_itt, b_lz, b_lw, ↓c_itc, ↓c_not, b_not, ↓c_tbool, ↓c_or0, ↓c_and0, ↓c_or, ↓c_and, b_ao, b_aa, ↓c_tcall, b_tb, ↓c_ts0, ↓c_ts, b_ts, ↓exs_then, ↓c_exs0, b_next, b_ret, b_kret, ↓x_alc, ↓x_tt, b_tt, b_nx, ba_nil, ba_cons, ↓x_ti, b_ti, ↓x_store, b_st1, b_st2, b_st3, b_st4, ↓x_if, b_ifs, ↓x_for, b_for, ↓x_while, ↓x_expr, b_ex, b_fnr, b_fnn, ↓lvl_exz, ↓lvl_exs, call_bi, call_ty, freeze_d, ↓if_tt, ↓if_ff, if_true, if_false, Bool.not_true, Bool.not_false, hps, hnb]
     subst hrest
     exact seg11 hT hU hK (isrn_of r3) o3
   · simp -implicitDefEqProofs (disch := first | decide | exact rfl) only [bt_pair', bt_name', lk_miss, List.lookup_nil, Option.isNone_none, if_dec, set_miss, set_nil, kp, lT, lB, lk_app ok2, set_app ok2]
   · obtain ⟨hs, ht⟩ := mem_pairs.mp hp
     have hh := heavy_fn (isrn_of r3) 2 p.1 p.2 (hU.ht _ hs) (hU.ht _ hs) (hU.ht _ ht) 495 (by decide)
     simp -implicitDefEqProofs (disch := first | exact keq rfl | decide | exact Nat.le_trans (by decide) (Nat.le_add_left _ _) | exact Nat.le_add_right_of_le (Nat.le_trans (by decide) (Nat.le_add_left _ _)) | exact pureT hT rfl rfl | exact pureTs hT rfl rfl | exact pureT ok1 rfl rfl | exact pureTs ok1 rfl rfl | exact pureT ok2 rfl rfl | exact pureTs ok2 rfl rfl | exact pureT ok3 rfl rfl | exact pureTs ok3 rfl rfl | exact pureT hT hno rfl | exact pureTs hT hno rfl | assumption | exact hset _ | fail) only [↓pureE_ok, ↓pureEs_ok, ↓d_evs, ↓d_tuple, b_asT, ↓c_lc1', ↓c_lc2', dropT, cok3, ↓d_call, ↓p_call, ↓d_meth, ↓p_meth, ↓d_attr, ↓p_attr, ↓d_cmp, ↓p_cmp, ↓d_tcmp, ↓p_tcmp, ↓d_sl1, ↓p_sl1, ↓d_sl2, ↓p_sl2, ↓d_item, ↓p_item, ↓d_bin, ↓p_bin, ↓d_it, ↓p_it, ↓d_lazy, ↓p_lazy, ↓d_ret, ↓p_ret, ↓d_as, b_call, b_m1, b_m2, b_at, b_v, b_d, b_c1, b_c2, b_c3, b_t1, b_t2, b_t3, ↓c_sl3, b_s, b_i, ↓c_itemC, b_i1, b_i2, b_b1, b_b2, ↓c_neg, ↓c_if, b_if, ↓c_dict, ↓c_list, b_l, ↓c_listm, b_lm, b_tu, ↓c_evs0, b_e1, b_e2, ↓c_bool, ↓c_bo1, ↓c_bo2, b_and, b_or, ↓c_lc, b_lc, b_lc2, b_ld, b_itl, b_itt, b_lz, b_lw, ↓c_itc, ↓c_not, b_not, ↓c_tbool, ↓c_or0, ↓c_and0, ↓c_or, ↓c_and, b_ao, b_aa, ↓c_tcall, b_tb, ↓c_ts0, ↓c_ts, b_ts, ↓exs_then, ↓c_exs0, b_next, b_ret, b_kret, ↓x_alc, ↓x_tt, b_tt, b_nx, ba_nil, ba_cons, ↓x_ti, b_ti, ↓x_store, b_st1, b_st2, b_st3, b_st4, ↓x_if, b_ifs, ↓x_for, b_for, ↓x_while, ↓x_expr, b_ex, b_fnr, b_fnn, ↓lvl_exz, ↓lvl_exs, call_bi, call_ty, freeze_d, ↓if_tt, ↓if_ff, if_true, if_false, Bool.not_true, Bool.not_false, lT, lB, hh]
 · intro p hp
   obtain ⟨hs, ht⟩ := mem_pairs.mp hp
   refine ⟨?_, fun μ4 ⟨w4, s4⟩ => ?_⟩
   · simp -implicitDefEqProofs (disch := first | decide | exact rfl) only [bt_pair', bt_name', lk_miss, List.lookup_nil, Option.isNone_none, if_dec, set_miss, set_nil, kp, lT, lB, lk_app ok1, set_app ok1]
   · obtain ⟨μ5, w5, s5, e5⟩ := weight_above hU 4 p.1 p.2 hs ht (by have := hU.ht _ hs; have := hU.ht _ ht; omega) 495 (by decide) μ4 w4
     refine ⟨μ4, ⟨w4, s4⟩, rfl, fun _ => ⟨μ5, ⟨w5, s4.trans s5⟩, ?_⟩⟩
     simp -implicitDefEqProofs (disch := first | exact keq rfl | decide | exact Nat.le_trans (by decide) (Nat.le_add_left _ _) | exact Nat.le_add_right_of_le (Nat.le_trans (by decide) (Nat.le_add_left _ _)) | exact pureT hT rfl rfl | exact pureTs hT rfl rfl | exact pureT ok1 rfl rfl | exact pureTs ok1 rfl rfl | exact pureT ok2 rfl rfl | exact pureTs ok2 rfl rfl | exact pureT ok3 rfl rfl | exact pureTs ok3 rfl rfl | exact pureT hT hno rfl | exact pureTs hT hno rfl | assumption | exact hset _ | fail) only [↓pureE_ok, ↓pureEs_ok, ↓d_evs, ↓d_tuple, b_asT, ↓c_lc1', ↓c_lc2', dropT, cok3, ↓d_call, ↓p_call, ↓d_meth, ↓p_meth, ↓d_attr, ↓p_attr, ↓d_cmp, ↓p_cmp, ↓d_tcmp, ↓p_tcmp, ↓d_sl1, ↓p_sl1, ↓d_sl2, ↓p_sl2, ↓d_item, ↓p_item, ↓d_bin, ↓p_bin, ↓d_it, ↓p_it, ↓d_lazy, ↓p_lazy, ↓d_ret, ↓p_ret, ↓d_as, b_call, b_m1, b_m2, b_at, b_v, b_d, b_c1, b_c2, b_c3, b_t1, b_t2, b_t3, ↓c_sl3, b_s, b_i, ↓c_itemC, b_i1, b_i2, b_b1, b_b2, ↓c_neg, ↓c_if, b_if, ↓c_dict, ↓c_list, b_l, ↓c_listm, b_lm, b_tu, ↓c_evs0, b_e1, b_e2, ↓c_bool, ↓c_bo1, ↓c_bo2, b_and, b_or, ↓c_lc, b_lc, b_lc2, b_ld, b_itl, b_itt, b_lz, b_lw, ↓c_itc, ↓c_not, b_not, ↓c_tbool, ↓c_or0, ↓c_and0, ↓c_or, ↓c_and, b_ao, b_aa, ↓c_tcall, b_tb, ↓c_ts0, ↓c_ts, b_ts, ↓exs_then, ↓c_exs0, b_next, b_ret, b_kret, ↓x_alc, ↓x_tt, b_tt, b_nx, ba_nil, ba_cons, ↓x_ti, b_ti, ↓x_store, b_st1, b_st2, b_st3, b_st4, ↓x_if, b_ifs, ↓x_for, b_for, ↓x_while, ↓x_expr, b_ex, b_fnr, b_fnn, ↓lvl_exz, ↓lvl_exs, call_bi, call_ty, freeze_d, ↓if_tt, ↓if_ff, if_true, if_false, Bool.not_true, Bool.not_false, lT, lB, pre_above w4, me_above w4.cls, e5]
noncomputable def lA (a b : Tm) (U : List Tm) (K : List (Tm × Tm)) (l : Loc) : Loc := (("one" : Str), V.d a.enc) :: (("other" : Str), V.d b.enc) :: (("some" : Str), V.d (.list (U.map Tm.enc))) :: (("known" : Str), V.dict (tabD (tabT K))) :: (("order" : Str), V.inst 117 3) :: (("anew" : Str), V.inst 117 5) ::
 (("pairs" : Str), V.d (.list ((pairsOf U).map kp))) :: l
theorem in_kp {μ : Sto} {p : Tm × Tm} {K : List (Tm × Tm)} (h1 : p.1.ht <= 2) (h2 : p.2.ht <= 2) : cmpM μ .In (.d (kp p)) (.dict (tabD (tabT K))) = some (memK K p.1 p.2) := by
 have h := in_tab (μ := μ) (p := p) (kd := .dict (tabD (tabT K))) (l := tabT K) rfl (Nat.le_succ_of_le h1) (Nat.le_succ_of_le h2)
 rw [<- memT]; exact h
theorem seg7 (hT : TOk T) (hU : Uni U) (hK : ∀ s ∈ U, ∀ t ∈ U, memK K s t = PR rs s t) {μ : Sto} (h1 : μ[1]? = some (.dict (rnD rs))) (hrl : rs.length <= 1000) (o : OS (PR rs) U 117 3 4 none rs μ) (w : OS (PR rs) U 117 5 6 none rs μ) : Ends 7 (lT T sv (lA a b U K [])) μ := by
 unfold Ends
 rw [show lawF.body.drop 7 = _ :: _ :: lawF.body.drop 9 from rfl, show lawF.sc = ⟨_, _, _, _, _⟩ from rfl]
 generalize hrest : lawF.body.drop 9 = rest
 have hps : ∀ f : Tm -> Tm -> Bool, smallLen ((pairsOf U).map fun p => PyData.bool (f p.1 p.2)) = true := fun f => small_of (by rw [List.length_map]; exact Nat.le_trans (pairs_len hU.len) (by decide))
 simp -implicitDefEqProofs (disch := first | exact keq rfl | decide | exact Nat.le_trans (by decide) (Nat.le_add_left _ _) | exact Nat.le_add_right_of_le (Nat.le_trans (by decide) (Nat.le_add_left _ _)) | exact pureT hT rfl rfl | exact pureTs hT rfl rfl | exact pureT ok1 rfl rfl | exact pureTs ok1 rfl rfl | exact pureT ok2 rfl rfl | exact pureTs ok2 rfl rfl | exact pureT ok3 rfl rfl | exact pureTs ok3 rfl rfl | exact pureT hT hno rfl | exact pureTs hT hno rfl | assumption | exact hset _ | fail) only [↓pureE_ok, ↓pureEs_ok, ↓d_evs, ↓d_tuple, b_asT, ↓c_lc1', ↓c_lc2', dropT, cok3, ↓d_call, ↓p_call, ↓d_meth, ↓p_meth, ↓d_attr, ↓p_attr, ↓d_cmp, ↓p_cmp, ↓d_tcmp, ↓p_tcmp, ↓d_sl1, ↓p_sl1, ↓d_sl2, ↓p_sl2, ↓d_item, ↓p_item, ↓d_bin, ↓p_bin, ↓d_it, ↓p_it, ↓d_lazy, ↓p_lazy, ↓d_ret, ↓p_ret, ↓d_as, b_call, b_m1, b_m2, b_at, b_v, b_d, b_c1, b_c2, b_c3, b_t1, b_t2, b_t3, ↓c_sl3, b_s, b_i, ↓c_itemC, b_i1, b_i2, b_b1, b_b2, ↓c_neg, ↓c_if, b_if, ↓c_dict, ↓c_list, b_l, ↓c_listm, b_lm, b_tu, ↓c_evs0, b_e1, b_e2, ↓c_bool, ↓c_bo1, ↓c_bo2, b_and, b_or, ↓c_lc, b_lc, b_lc2, b_ld, b_itl, b_itt, b_lz, b_lw, ↓c_itc, ↓c_not, b_not, ↓c_tbool, ↓c_or0, ↓c_and0, ↓c_or, ↓c_and, b_ao, b_aa, ↓c_tcall, b_tb, ↓c_ts0, ↓c_ts, b_ts, ↓exs_then, ↓c_exs0, b_next, b_ret, b_kret, ↓x_alc, ↓x_tt, b_tt, b_nx, ba_nil, ba_cons, ↓x_ti, b_ti, ↓x_store, b_st1, b_st2, b_st3, b_st4, ↓x_if, b_ifs, ↓x_for, b_for, ↓x_while, ↓x_expr, b_ex, b_fnr, b_fnn, ↓lvl_exz, ↓lvl_exs, call_bi, call_ty, freeze_d, ↓if_tt, ↓if_ff, if_true, if_false, Bool.not_true, Bool.not_false, lT, lA]
 generalize hT1 : dropL _ T = T1
 have ok1 : TOk T1 := hT1 ▸ drop_ok hT
 generalize hZ : compM _ _ _ _ _ _ _ = Z
 have hq := comp_invZ (I := fun μ' => OS (PR rs) U 117 3 4 none rs μ' /\ Same 4 μ μ') kp (fun p => lT T1 sv (lA a b U K [(("s" : Str), V.d p.1.enc), (("t" : Str), V.d p.2.enc)])) (fun _ => true) (fun p => .bool (PR rs p.1 p.2)) (pairsOf U) μ Z hZ ⟨o, Same.refl⟩ ?_
 · obtain ⟨μ1, ⟨o1, s1⟩, rfl⟩ := hq
   clear hZ
   have w1 := w.keep s1 (by decide) (by decide) (fun i hi => by cases hi)
   have r1 := s1.get h1 (by decide)
   rw [filter_true]
   simp -implicitDefEqProofs (disch := first | exact keq rfl | decide | exact Nat.le_trans (by decide) (Nat.le_add_left _ _) | exact Nat.le_add_right_of_le (Nat.le_trans (by decide) (Nat.le_add_left _ _)) | exact pureT hT rfl rfl | exact pureTs hT rfl rfl | exact pureT ok1 rfl rfl | exact pureTs ok1 rfl rfl | exact pureT ok2 rfl rfl | exact pureTs ok2 rfl rfl | exact pureT ok3 rfl rfl | exact pureTs ok3 rfl rfl | exact pureT hT hno rfl | exact pureTs hT hno rfl | assumption | exact hset _ | fail) only [↓pureE_ok, ↓pureEs_ok, ↓d_evs, ↓d_tuple, b_asT, ↓c_lc1', ↓c_lc2', dropT, cok3, ↓d_call, ↓p_call, ↓d_meth, ↓p_meth, ↓d_attr, ↓p_attr, ↓d_cmp, ↓p_cmp, ↓d_tcmp, ↓p_tcmp, ↓d_sl1, ↓p_sl1, ↓d_sl2, ↓p_sl2, ↓d_item, ↓p_item, ↓d_bin, ↓p_bin, ↓d_it, ↓p_it, ↓d_lazy, ↓p_lazy, ↓d_ret, ↓p_ret, ↓d_as, b_call, b_m1, b_m2, b_at, b_v, b_d, b_c1, b_c2, b_c3, b_t1, b_t2, b_t3, ↓c_sl3, b_s, b_i, ↓c_itemC, b_i1, b_i2, b_b1, b_b2, ↓c_neg, ↓c_if, b_if, ↓c_dict, ↓c_list, b_l, ↓c_listm, b_lm, b_tu, ↓c_evs0, b_e1, b_e2, ↓c_bool, ↓c_bo1, ↓c_bo2, b_and, b_or, ↓c_lc, b_lc, b_lc2, b_ld, b_itl, b_itt, b_lz, b_lw, ↓c_itc, ↓c_not, b_not, ↓c_tbool, ↓c_or0, ↓c_and0, ↓c_or, ↓c_and, b_ao, b_aa, ↓c_tcall, b_tb, ↓c_ts0, ↓c_ts, b_ts, ↓exs_then, ↓c_exs0, b_next, b_ret, b_kret, ↓x_alc, ↓x_tt, b_tt, b_nx, ba_nil, ba_cons, ↓x_ti, b_ti, ↓x_store, b_st1, b_st2, b_st3, b_st4, ↓x_if, b_ifs, ↓x_for, b_for, ↓x_while, ↓x_expr, b_ex, b_fnr, b_fnn, ↓lvl_exz, ↓lvl_exs, call_bi, call_ty, freeze_d, ↓if_tt, ↓if_ff, if_true, if_false, Bool.not_true, Bool.not_false, hps]
   generalize hT2 : dropL _ T = T2
   have ok2 : TOk T2 := hT2 ▸ drop_ok hT
   have hsp : smallLen ((pairsOf U).map kp) = true := small_of (by rw [List.length_map]; exact Nat.le_trans (pairs_len hU.len) (by decide))
   rw [comp_pure kp (fun p => lT T2 sv (lA a b U K [(("told" : Str), V.d (.list ((pairsOf U).map fun p => PyData.bool (PR rs p.1 p.2)))), (("pair" : Str), V.d (kp p))])) (fun _ => true) (fun p => .bool (PR rs p.1 p.2)) (pairsOf U) (fun p hp => ⟨?_, rfl, fun _ => ?_⟩)]
   · rw [filter_true]
     have hnb := ne_bools (μ := μ1) ((pairsOf U).map fun p => PR rs p.1 p.2)
     rw [<- bools_eq] at hnb
     simp -implicitDefEqProofs (disch := first | exact keq rfl | decide | exact Nat.le_trans (by decide) (Nat.le_add_left _ _) | exact Nat.le_add_right_of_le (Nat.le_trans (by decide) (Nat.le_add_left _ _)) | exact pureT hT rfl rfl | exact pureTs hT rfl rfl | exact pureT ok1 rfl rfl | exact pureTs ok1 rfl rfl | exact pureT ok2 rfl rfl | exact pureTs ok2 rfl rfl | exact pureT ok3 rfl rfl | exact pureTs ok3 rfl rfl | exact pureT hT hno rfl | exact pureTs hT hno rfl | assumption | exact hset _ | fail) only [↓pureE_ok, ↓pureEs_ok, ↓d_evs, ↓d_tuple, b_asT, ↓c_lc1', ↓c_lc2', dropT, cok3, ↓d_call, ↓p_call, ↓d_meth, ↓p_meth, ↓d_attr, ↓p_attr, ↓d_cmp, ↓p_cmp, ↓d_tcmp, ↓p_tcmp, ↓d_sl1, ↓p_sl1, ↓d_sl2, ↓p_sl2, ↓d_item, ↓p_item, ↓d_bin, ↓p_bin, ↓d_it, ↓p_it, ↓d_lazy, ↓p_lazy, ↓d_ret, ↓p_ret, ↓d_as, b_call, b_m1, b_m2, b_at, b_v, b_d, b_c1, b_c2, b_c3, b_t1, b_t2, b_t3, ↓c_sl3, b_s, b_i, ↓c_itemC, b_i1, b_i2, b_b1, b_b2, ↓c_neg, ↓c_if, b_if, ↓c_dict, ↓c_list, b_l, ↓c_listm, b_lm, b_tu, ↓c_evs0, b_e1, b_e2, ↓c_bool, ↓c_bo1, ↓c_bo2, b_and, b_or, ↓c_lc, b_lc, b_lc2, b_ld, b_itl, b_itt, b_lz, b_lw, ↓c_itc, ↓c_not, b_not, ↓c_tbool, ↓c_or0, ↓c_and0, ↓c_or, ↓c_and, b_ao, b_aa, ↓c_tcall, b_tb, ↓c_ts0, ↓c_ts, b_ts, ↓exs_then, ↓c_exs0, b_next, b_ret, b_kret, ↓x_alc, ↓x_tt, b_tt, b_nx, ba_nil, ba_cons, ↓x_ti, b_ti, ↓x_store, b_st1, b_st2, b_st3, b_st4, ↓x_if, b_ifs, ↓x_for, b_for, ↓x_while, ↓x_expr, b_ex, b_fnr, b_fnn, ↓lvl_exz, ↓lvl_exs, call_bi, call_ty, freeze_d, ↓if_tt, ↓if_ff, if_true, if_false, Bool.not_true, Bool.not_false, hps, hnb, show smallI 1 = true from rfl, rev_lst hsp, rev_lst (hps (PR rs)), <- List.map_reverse]
     generalize hT3 : dropL _ T = T3
     have ok3 : TOk T3 := hT3 ▸ drop_ok hT
     generalize hZ : compM _ _ _ _ _ _ _ = Z
     have hq := comp_invZ (I := fun μ' => OS (PR rs) U 117 5 6 none rs μ' /\ Same 6 μ1 μ') kp (fun p => lT T3 sv (lA a b U K [(("told" : Str), V.d (.list ((pairsOf U).map fun p => PyData.bool (PR rs p.1 p.2)))), (("s" : Str), V.d p.1.enc), (("t" : Str), V.d p.2.enc)])) (fun _ => true) (fun p => .bool (PR rs p.1 p.2)) (pairsOf U).reverse μ1 Z hZ ⟨w1, Same.refl⟩ ?_
     · obtain ⟨μ2, ⟨w2, s2⟩, rfl⟩ := hq
       clear hZ
       have o2 := o1.keep s2 (by decide) (by decide) (fun i hi => by cases hi)
       have r2 := s2.get r1 (by decide)
       have hnb := ne_bools (μ := μ2) ((pairsOf U).reverse.map fun p => PR rs p.1 p.2)
       rw [<- bools_eq] at hnb
       have hpr : smallLen ((pairsOf U).reverse.map fun p => PyData.bool (PR rs p.1 p.2)) = true := small_of (by rw [List.length_map, List.length_reverse]; exact Nat.le_trans (pairs_len hU.len) (by decide))
       rw [filter_true]
       simp -implicitDefEqProofs (disch := first | exact keq rfl | decide | exact Nat.le_trans (by decide) (Nat.le_add_left _ _) | exact Nat.le_add_right_of_le (Nat.le_trans (by decide) (Nat.le_add_left _ _)) | exact pureT hT rfl rfl | exact pureTs hT rfl rfl | exact pureT ok1 rfl rfl | exact pureTs ok1 rfl rfl | exact pureT ok2 rfl rfl | exact pureTs ok2 rfl rfl | exact pureT ok3 rfl rfl | exact pureTs ok3 rfl rfl | exact pureT hT hno rfl | exact pureTs hT hno rfl | assumption | exact hset _ | fail) only [↓pureE_ok, ↓pureEs_ok, ↓d_evs, ↓d_tuple, b_asT, ↓c_lc1', ↓c_lc2', dropT, cok3, ↓d_call, ↓p_call, ↓d_meth, ↓p_meth, ↓d_attr, ↓p_attr, ↓d_cmp, ↓p_cmp, ↓d_tcmp, ↓p_tcmp, ↓d_sl1, ↓p_sl1, ↓d_sl2, ↓p_sl2, ↓d_item, ↓p_item, ↓d_bin, ↓p_bin, ↓d_it, ↓p_it, ↓d_lazy, ↓p_lazy, ↓d_ret, ↓p_ret, ↓d_as, b_call, b_m1, b_m2, b_at, b_v, b_d, b_c1, b_c2, b_c3, b_t1, b_t2, b_t3, ↓c_sl3, b_s, b_i, ↓c_itemC, b_i1, b_i2, b_b1, b_b2, ↓c_neg, ↓c_if, b_if, ↓c_dict, ↓c_list, b_l, ↓c_listm, b_lm, b_tu, ↓c_evs0, b_e1, b_e2, ↓c_bool, ↓c_bo1, ↓c_bo2, b_and, b_or, ↓c_lc, b_lc, b_lc2, b_ld, b_itl, b_itt, b_lz, b_lw, ↓c_itc, ↓c_not, b_not, ↓c_tbool, ↓c_or0, ↓c_and0, ↓c_or, ↓c_and, b_ao, b_aa, ↓c_tcall, b_tb, ↓c_ts0, ↓c_ts, b_ts, ↓exs_then, ↓c_exs0, b_next, b_ret, b_kret, ↓x_alc, ↓x_tt, b_tt, b_nx, ba_nil, ba_cons, ↓x_ti, b_ti, ↓x_store, b_st1, b_st2, b_st3, b_st4, ↓x_if, b_ifs, ↓x_for, b_for, ↓x_while, ↓x_expr, b_ex, b_fnr, b_fnn, ↓lvl_exz, ↓lvl_exs, call_bi, call_ty, freeze_d, ↓if_tt, ↓if_ff, if_true, if_false, Bool.not_true, Bool.not_false, hpr, hnb, show smallI 1 = true from rfl, rev_lst (hps (PR rs)), <- List.map_reverse]
       subst hrest
       have := seg9 (sv := sv) (a := a) (b := b) hT hU hK r2 hrl o2
       unfold lB boolsOf at this
       rw [<- bools_eq] at this
       exact this
     · intro p hp
       obtain ⟨hs, ht⟩ := mem_pairs.mp (List.mem_reverse.mp hp)
       refine ⟨?_, fun μ4 ⟨w4, s4⟩ => ?_⟩
       · simp -implicitDefEqProofs (disch := first | decide | exact rfl) only [bt_pair', bt_name', lk_miss, List.lookup_nil, Option.isNone_none, if_dec, set_miss, set_nil, kp, lT, lA, lk_app ok3, set_app ok3]
       · obtain ⟨μ5, w5, s5, e5⟩ := path_above hU 4 p.1 p.2 hs ht (by have := hU.ht _ hs; have := hU.ht _ ht; omega) 494 (by decide) μ4 w4
         refine ⟨μ4, ⟨w4, s4⟩, rfl, fun _ => ⟨μ5, ⟨w5, s4.trans s5⟩, ?_⟩⟩
         simp -implicitDefEqProofs (disch := first | exact keq rfl | decide | exact Nat.le_trans (by decide) (Nat.le_add_left _ _) | exact Nat.le_add_right_of_le (Nat.le_trans (by decide) (Nat.le_add_left _ _)) | exact pureT hT rfl rfl | exact pureTs hT rfl rfl | exact pureT ok1 rfl rfl | exact pureTs ok1 rfl rfl | exact pureT ok2 rfl rfl | exact pureTs ok2 rfl rfl | exact pureT ok3 rfl rfl | exact pureTs ok3 rfl rfl | exact pureT hT hno rfl | exact pureTs hT hno rfl | assumption | exact hset _ | fail) only [↓pureE_ok, ↓pureEs_ok, ↓d_evs, ↓d_tuple, b_asT, ↓c_lc1', ↓c_lc2', dropT, cok3, ↓d_call, ↓p_call, ↓d_meth, ↓p_meth, ↓d_attr, ↓p_attr, ↓d_cmp, ↓p_cmp, ↓d_tcmp, ↓p_tcmp, ↓d_sl1, ↓p_sl1, ↓d_sl2, ↓p_sl2, ↓d_item, ↓p_item, ↓d_bin, ↓p_bin, ↓d_it, ↓p_it, ↓d_lazy, ↓p_lazy, ↓d_ret, ↓p_ret, ↓d_as, b_call, b_m1, b_m2, b_at, b_v, b_d, b_c1, b_c2, b_c3, b_t1, b_t2, b_t3, ↓c_sl3, b_s, b_i, ↓c_itemC, b_i1, b_i2, b_b1, b_b2, ↓c_neg, ↓c_if, b_if, ↓c_dict, ↓c_list, b_l, ↓c_listm, b_lm, b_tu, ↓c_evs0, b_e1, b_e2, ↓c_bool, ↓c_bo1, ↓c_bo2, b_and, b_or, ↓c_lc, b_lc, b_lc2, b_ld, b_itl, b_itt, b_lz, b_lw, ↓c_itc, ↓c_not, b_not, ↓c_tbool, ↓c_or0, ↓c_and0, ↓c_or, ↓c_and, b_ao, b_aa, ↓c_tcall, b_tb, ↓c_ts0, ↓c_ts, b_ts, ↓exs_then, ↓c_exs0, b_next, b_ret, b_kret, ↓x_alc, ↓x_tt, b_tt, b_nx, ba_nil, ba_cons, ↓x_ti, b_ti, ↓x_store, b_st1, b_st2, b_st3, b_st4, ↓x_if, b_ifs, ↓x_for, b_for, ↓x_while, ↓x_expr, b_ex, b_fnr, b_fnn, ↓lvl_exz, ↓lvl_exs, call_bi, call_ty, freeze_d, ↓if_tt, ↓if_ff, if_true, if_false, Bool.not_true, Bool.not_false, lT, lA, pre_above w4, me_above w4.cls, e5]
   · simp -implicitDefEqProofs (disch := first | decide | exact rfl) only [bt_pair', bt_name', lk_miss, List.lookup_nil, Option.isNone_none, if_dec, set_miss, set_nil, lT, lA, lk_app ok2, set_app ok2]
   · obtain ⟨hs, ht⟩ := mem_pairs.mp hp
     have hin := in_kp (μ := μ1) (K := K) (hU.ht _ hs) (hU.ht _ ht)
     rw [hK _ hs _ ht] at hin
     simp -implicitDefEqProofs (disch := first | exact keq rfl | decide | exact Nat.le_trans (by decide) (Nat.le_add_left _ _) | exact Nat.le_add_right_of_le (Nat.le_trans (by decide) (Nat.le_add_left _ _)) | exact pureT hT rfl rfl | exact pureTs hT rfl rfl | exact pureT ok1 rfl rfl | exact pureTs ok1 rfl rfl | exact pureT ok2 rfl rfl | exact pureTs ok2 rfl rfl | exact pureT ok3 rfl rfl | exact pureTs ok3 rfl rfl | exact pureT hT hno rfl | exact pureTs hT hno rfl | assumption | exact hset _ | fail) only [↓pureE_ok, ↓pureEs_ok, ↓d_evs, ↓d_tuple, b_asT, ↓c_lc1', ↓c_lc2', dropT, cok3, ↓d_call, ↓p_call, ↓d_meth, ↓p_meth, ↓d_attr, ↓p_attr, ↓d_cmp, ↓p_cmp, ↓d_tcmp, ↓p_tcmp, ↓d_sl1, ↓p_sl1, ↓d_sl2, ↓p_sl2, ↓d_item, ↓p_item, ↓d_bin, ↓p_bin, ↓d_it, ↓p_it, ↓d_lazy, ↓p_lazy, ↓d_ret, ↓p_ret, ↓d_as, b_call, b_m1, b_m2, b_at, b_v, b_d, b_c1, b_c2, b_c3, b_t1, b_t2, b_t3, ↓c_sl3, b_s, b_i, ↓c_itemC, b_i1, b_i2, b_b1, b_b2, ↓c_neg, ↓c_if, b_if, ↓c_dict, ↓c_list, b_l, ↓c_listm, b_lm, b_tu, ↓c_evs0, b_e1, b_e2, ↓c_bool, ↓c_bo1, ↓c_bo2, b_and, b_or, ↓c_lc, b_lc, b_lc2, b_ld, b_itl, b_itt, b_lz, b_lw, ↓c_itc, ↓c_not, b_not, ↓c_tbool, ↓c_or0, ↓c_and0, ↓c_or, ↓c_and, b_ao, b_aa, ↓c_tcall, b_tb, ↓c_ts0, ↓c_ts, b_ts, ↓exs_then, ↓c_exs0, b_next, b_ret, b_kret, ↓x_alc, ↓x_tt, b_tt, b_nx, ba_nil, ba_cons, ↓x_ti, b_ti, ↓x_store, b_st1, b_st2, b_st3, b_st4, ↓x_if, b_ifs, ↓x_for, b_for, ↓x_while, ↓x_expr, b_ex, b_fnr, b_fnn, ↓lvl_exz, ↓lvl_exs, call_bi, call_ty, freeze_d, ↓if_tt, ↓if_ff, if_true, if_false, Bool.not_true, Bool.not_false, lT, lA, hin]
 · intro p hp
   obtain ⟨hs, ht⟩ := mem_pairs.mp hp
   refine ⟨?_, fun μ4 ⟨w4, s4⟩ => ?_⟩
   · simp -implicitDefEqProofs (disch := first | decide | exact rfl) only [bt_pair', bt_name', lk_miss, List.lookup_nil, Option.isNone_none, if_dec, set_miss, set_nil, kp, lT, lA, lk_app ok1, set_app ok1]
   · obtain ⟨μ5, w5, s5, e5⟩ := path_above hU 4 p.1 p.2 hs ht (by have := hU.ht _ hs; have := hU.ht _ ht; omega) 497 (by decide) μ4 w4
     refine ⟨μ4, ⟨w4, s4⟩, rfl, fun _ => ⟨μ5, ⟨w5, s4.trans s5⟩, ?_⟩⟩
     simp -implicitDefEqProofs (disch := first | exact keq rfl | decide | exact Nat.le_trans (by decide) (Nat.le_add_left _ _) | exact Nat.le_add_right_of_le (Nat.le_trans (by decide) (Nat.le_add_left _ _)) | exact pureT hT rfl rfl | exact pureTs hT rfl rfl | exact pureT ok1 rfl rfl | exact pureTs ok1 rfl rfl | exact pureT ok2 rfl rfl | exact pureTs ok2 rfl rfl | exact pureT ok3 rfl rfl | exact pureTs ok3 rfl rfl | exact pureT hT hno rfl | exact pureTs hT hno rfl | assumption | exact hset _ | fail) only [↓pureE_ok, ↓pureEs_ok, ↓d_evs, ↓d_tuple, b_asT, ↓c_lc1', ↓c_lc2', dropT, cok3, ↓d_call, ↓p_call, ↓d_meth, ↓p_meth, ↓d_attr, ↓p_attr, ↓d_cmp, ↓p_cmp, ↓d_tcmp, ↓p_tcmp, ↓d_sl1, ↓p_sl1, ↓d_sl2, ↓p_sl2, ↓d_item, ↓p_item, ↓d_bin, ↓p_bin, ↓d_it, ↓p_it, ↓d_lazy, ↓p_lazy, ↓d_ret, ↓p_ret, ↓d_as, b_call, b_m1, b_m2, b_at, b_v, b_d, b_c1, b_c2, b_c3, b_t1, b_t2, b_t3, ↓c_sl3, b_s, b_i, ↓c_itemC, b_i1, b_i2, b_b1, b_b2, ↓c_neg, ↓c_if, b_if, ↓c_dict, ↓c_list, b_l, ↓c_listm, b_lm, b_tu, ↓c_evs0, b_e1, b_e2, ↓c_bool, ↓c_bo1, ↓c_bo2, b_and, b_or, ↓c_lc, b_lc, b_lc2, b_ld, b_itl, b_itt, b_lz, b_lw, ↓c_itc, ↓c_not, b_not, ↓c_tbool, ↓c_or0, ↓c_and0, ↓c_or, ↓c_and, b_ao, b_aa, ↓c_tcall, b_tb, ↓c_ts0, ↓c_ts, b_ts, ↓exs_then, ↓c_exs0, b_next, b_ret, b_kret, ↓x_alc, ↓x_tt, b_tt, b_nx, ba_nil, ba_cons, ↓x_ti, b_ti, ↓x_store, b_st1, b_st2, b_st3, b_st4, ↓x_if, b_ifs, ↓x_for, b_for, ↓x_while, ↓x_expr, b_ex, b_fnr, b_fnn, ↓lvl_exz, ↓lvl_exs, call_bi, call_ty, freeze_d, ↓if_tt, ↓if_ff, if_true, if_false, Bool.not_true, Bool.not_false, lT, lA, pre_above w4, me_above w4.cls, e5]
end
end Mine.L
end
section
namespace Mine.L
open PySem
theorem pat2 {i : Nat} : PatOk i 120 2 7 := pat_step (N := 80) (h := 1) (c := 3) (pat_step (N := 40) (h := 0) (c := 1) pat0 (by decide)) (by decide)
theorem inside_at (t : Tm) (M : Nat) (μ : Sto) (ht : t.ht <= 2) (hM : 36 <= M) : (Lvl PP M).call (.con (.ref 187)) [.d t.enc] μ = some (.d (.list ((insideOf t).map Tm.enc)), μ) :=
 lvl_at (P := fun M => (Lvl PP M).call (.con (.ref 187)) [.d t.enc] μ = some (.d (.list ((insideOf t).map Tm.enc)), μ)) (fun n => inside_fn t n μ (Nat.le_succ_of_le ht)) (Nat.le_trans (Nat.add_le_add_right (Nat.mul_le_mul_left 12 ht) 12) hM : 12 * t.ht + 12 <= M)
theorem pairs_map (U : List Tm) : (U.flatMap fun s => ((U.filter fun _ => true).map fun t => PyData.tuple [s.enc, t.enc])) = (pairsOf U).map kp := by
 unfold pairsOf
 rw [List.map_flatMap]
 congr 1; funext s
 rw [filter_true, List.map_map]; rfl
section
variable {T : Loc} {sv : V} {rs : List (Str × Int)} {b : Nat}
theorem seg5 (hT : TOk T) {x y : Tm} {U : List Tm} (hU : Uni U) {μ : Sto} (h1 : μ[1]? = some (.dict (rnD rs))) (hrl : rs.length <= 1000) (hμ : μ.length = 2) :
   Ends 5 (lT T sv [(("one" : Str), V.d x.enc), (("other" : Str), V.d y.enc), (("some" : Str), V.d (.list (U.map Tm.enc)))]) μ := by
 obtain ⟨K, hg, hc, eg⟩ := gathered_fn hU (isrn_of h1) 497 (by decide)
 have hK := closed_all hU hg hc
 have a1 : (μ ++ [MO.dead])[1]? = some (.dict (rnD rs)) := by rw [List.getElem?_append_left (by omega), h1]
 have l1 : (μ ++ [MO.dead]).length = 3 := by simp [hμ]
 have c1 := fun n => ctor_path (n := n) (μ := μ ++ [MO.dead]) (rs := rs)
 rw [l1] at c1
 have a2 : (μ ++ [MO.dead] ++ [MO.attrs (atsOf none rs 4), .dict []])[1]? = some (.dict (rnD rs)) := by rw [List.getElem?_append_left (by omega), a1]
 have l2 : (μ ++ [MO.dead] ++ [MO.attrs (atsOf none rs 4), .dict []]).length = 5 := by simp [hμ]
 have o2 : OS (PR rs) U 117 3 4 none rs (μ ++ [MO.dead] ++ [MO.attrs (atsOf none rs 4), .dict []]) := by
   refine ⟨?_, (.inl rfl), (fun i hi => by cases hi), by decide, [], ?_, memo0 _ _⟩
   · rw [List.getElem?_append_right (by omega), l1]; rfl
   · rw [List.getElem?_append_right (by omega), l1]; rfl
 generalize hμ2 : μ ++ [MO.dead] ++ [MO.attrs (atsOf none rs 4), .dict []] = μ2 at a2 l2 o2
 have c2 := fun n => ctor_path (n := n) (μ := μ2) (rs := rs)
 rw [l2] at c2
 have a3 : (μ2 ++ [MO.attrs (atsOf none rs 6), .dict []])[1]? = some (.dict (rnD rs)) := by rw [List.getElem?_append_left (by omega), a2]
 have o3 : OS (PR rs) U 117 3 4 none rs (μ2 ++ [MO.attrs (atsOf none rs 6), .dict []]) := o2.app
 have w3 : OS (PR rs) U 117 5 6 none rs (μ2 ++ [MO.attrs (atsOf none rs 6), .dict []]) := by
   refine ⟨?_, (.inl rfl), (fun i hi => by cases hi), by decide, [], ?_, memo0 _ _⟩
   · rw [List.getElem?_append_right (by omega), l2]; rfl
   · rw [List.getElem?_append_right (by omega), l2]; rfl
 generalize hμ3 : μ2 ++ [MO.attrs (atsOf none rs 6), .dict []] = μ3 at a3 o3 w3
 unfold Ends
 rw [show lawF.body.drop 5 = _ :: _ :: lawF.body.drop 7 from rfl, show lawF.sc = ⟨_, _, _, _, _⟩ from rfl]
 generalize hrest : lawF.body.drop 7 = rest
 simp -implicitDefEqProofs (disch := first | exact keq rfl | decide | exact Nat.le_trans (by decide) (Nat.le_add_left _ _) | exact Nat.le_add_right_of_le (Nat.le_trans (by decide) (Nat.le_add_left _ _)) | exact pureT hT rfl rfl | exact pureTs hT rfl rfl | exact pureT ok1 rfl rfl | exact pureTs ok1 rfl rfl | exact pureT ok2 rfl rfl | exact pureTs ok2 rfl rfl | exact pureT ok3 rfl rfl | exact pureTs ok3 rfl rfl | exact pureT hT hno rfl | exact pureTs hT hno rfl | assumption | exact hset _ | fail) only [↓pureE_ok, ↓pureEs_ok, ↓d_evs, ↓d_tuple, b_asT, setT, ↓c_lc1', ↓c_lc2', dropT, cok3, ↓d_call, ↓p_call, ↓d_meth, ↓p_meth, ↓d_attr, ↓p_attr, ↓d_cmp, ↓p_cmp, ↓d_tcmp, ↓p_tcmp, ↓d_sl1, ↓p_sl1, ↓d_sl2, ↓p_sl2, ↓d_item, ↓p_item, ↓d_bin, ↓p_bin, ↓d_it, ↓p_it, ↓d_lazy, ↓p_lazy, ↓d_ret, ↓p_ret, ↓d_as, b_call, b_m1, b_m2, b_at, b_v, b_d, b_c1, b_c2, b_c3, b_t1, b_t2, b_t3, ↓c_sl3, b_s, b_i, ↓c_itemC, b_i1, b_i2, b_b1, b_b2, ↓c_neg, ↓c_if, b_if, ↓c_dict, ↓c_list, b_l, ↓c_listm, b_lm, b_tu, ↓c_evs0, b_e1, b_e2, ↓c_bool, ↓c_bo1, ↓c_bo2, b_and, b_or, ↓c_lc, b_lc, b_lc2, b_ld, b_itl, b_itt, b_lz, b_lw, ↓c_itc, ↓c_not, b_not, ↓c_tbool, ↓c_or0, ↓c_and0, ↓c_or, ↓c_and, b_ao, b_aa, ↓c_tcall, b_tb, ↓c_ts0, ↓c_ts, b_ts, ↓exs_then, ↓c_exs0, b_next, b_ret, b_kret, ↓x_alc, ↓x_tt, b_tt, b_nx, ba_nil, ba_cons, ↓x_ti, b_ti, ↓x_store, b_st1, b_st2, b_st3, b_st4, ↓x_if, b_ifs, ↓x_for, b_for, ↓x_while, ↓x_expr, b_ex, b_fnr, b_fnn, ↓lvl_exz, ↓lvl_exs, call_bi, call_ty, freeze_d, ↓if_tt, ↓if_ff, if_true, if_false, Bool.not_true, Bool.not_false, lT, eg, ty_dict a1 hrl, c1, hμ2, ty_dict a2 hrl, c2, hμ3]
 generalize hT1 : dropL _ T = T1
 have ok1 : TOk T1 := hT1 ▸ drop_ok hT
 let R : Loc -> Loc := fun l => (("one" : Str), V.d x.enc) :: (("other" : Str), V.d y.enc) :: (("some" : Str), V.d (.list (U.map Tm.enc))) :: (("known" : Str), V.dict (tabD (tabT K))) :: (("order" : Str), V.inst 117 3) :: (("anew" : Str), V.inst 117 5) :: l
 rw [comp2_pure Tm.enc (fun s => lT T1 sv (R [(("s" : Str), V.d s.enc)])) (fun _ => U) Tm.enc (fun s t => lT T1 sv (R [(("s" : Str), V.d s.enc), (("t" : Str), V.d t.enc)])) (fun _ _ => true) (fun s t => .tuple [s.enc, t.enc]) U (fun s hs => ⟨?_, ⟨false, ?_, rfl⟩, fun t ht => ⟨?_, rfl, fun _ => ?_⟩⟩)]
 · rw [pairs_map]
   have hsp : smallLen ((pairsOf U).map kp) = true := small_of (by rw [List.length_map]; exact Nat.le_trans (pairs_len hU.len) (by decide))
   simp -implicitDefEqProofs (disch := first | exact keq rfl | decide | exact Nat.le_trans (by decide) (Nat.le_add_left _ _) | exact Nat.le_add_right_of_le (Nat.le_trans (by decide) (Nat.le_add_left _ _)) | exact pureT hT rfl rfl | exact pureTs hT rfl rfl | exact pureT ok1 rfl rfl | exact pureTs ok1 rfl rfl | exact pureT ok2 rfl rfl | exact pureTs ok2 rfl rfl | exact pureT ok3 rfl rfl | exact pureTs ok3 rfl rfl | exact pureT hT hno rfl | exact pureTs hT hno rfl | assumption | exact hset _ | fail) only [↓pureE_ok, ↓pureEs_ok, ↓d_evs, ↓d_tuple, b_asT, setT, ↓c_lc1', ↓c_lc2', dropT, cok3, ↓d_call, ↓p_call, ↓d_meth, ↓p_meth, ↓d_attr, ↓p_attr, ↓d_cmp, ↓p_cmp, ↓d_tcmp, ↓p_tcmp, ↓d_sl1, ↓p_sl1, ↓d_sl2, ↓p_sl2, ↓d_item, ↓p_item, ↓d_bin, ↓p_bin, ↓d_it, ↓p_it, ↓d_lazy, ↓p_lazy, ↓d_ret, ↓p_ret, ↓d_as, b_call, b_m1, b_m2, b_at, b_v, b_d, b_c1, b_c2, b_c3, b_t1, b_t2, b_t3, ↓c_sl3, b_s, b_i, ↓c_itemC, b_i1, b_i2, b_b1, b_b2, ↓c_neg, ↓c_if, b_if, ↓c_dict, ↓c_list, b_l, ↓c_listm, b_lm, b_tu, ↓c_evs0, b_e1, b_e2, ↓c_bool, ↓c_bo1, ↓c_bo2, b_and, b_or, ↓c_lc, b_lc, b_lc2, b_ld, b_itl, b_itt, b_lz, b_lw, ↓c_itc, ↓c_not, b_not, ↓c_tbool, ↓c_or0, ↓c_and0, ↓c_or, ↓c_and, b_ao, b_aa, ↓c_tcall, b_tb, ↓c_ts0, ↓c_ts, b_ts, ↓exs_then, ↓c_exs0, b_next, b_ret, b_kret, ↓x_alc, ↓x_tt, b_tt, b_nx, ba_nil, ba_cons, ↓x_ti, b_ti, ↓x_store, b_st1, b_st2, b_st3, b_st4, ↓x_if, b_ifs, ↓x_for, b_for, ↓x_while, ↓x_expr, b_ex, b_fnr, b_fnn, ↓lvl_exz, ↓lvl_exs, call_bi, call_ty, freeze_d, ↓if_tt, ↓if_ff, if_true, if_false, Bool.not_true, Bool.not_false, hsp]
   subst hrest
   exact seg7 hT hU hK a3 hrl o3 w3
 · simp -implicitDefEqProofs (disch := first | decide | exact rfl) only [bt_pair', bt_name', lk_miss, List.lookup_nil, Option.isNone_none, if_dec, set_miss, set_nil, lT, R, lk_app ok1, set_app ok1]
 · simp -implicitDefEqProofs (disch := first | exact keq rfl | decide | exact Nat.le_trans (by decide) (Nat.le_add_left _ _) | exact Nat.le_add_right_of_le (Nat.le_trans (by decide) (Nat.le_add_left _ _)) | exact pureT hT rfl rfl | exact pureTs hT rfl rfl | exact pureT ok1 rfl rfl | exact pureTs ok1 rfl rfl | exact pureT ok2 rfl rfl | exact pureTs ok2 rfl rfl | exact pureT ok3 rfl rfl | exact pureTs ok3 rfl rfl | exact pureT hT hno rfl | exact pureTs hT hno rfl | assumption | exact hset _ | fail) only [↓pureE_ok, ↓pureEs_ok, ↓d_evs, ↓d_tuple, b_asT, setT, ↓c_lc1', ↓c_lc2', dropT, cok3, ↓d_call, ↓p_call, ↓d_meth, ↓p_meth, ↓d_attr, ↓p_attr, ↓d_cmp, ↓p_cmp, ↓d_tcmp, ↓p_tcmp, ↓d_sl1, ↓p_sl1, ↓d_sl2, ↓p_sl2, ↓d_item, ↓p_item, ↓d_bin, ↓p_bin, ↓d_it, ↓p_it, ↓d_lazy, ↓p_lazy, ↓d_ret, ↓p_ret, ↓d_as, b_call, b_m1, b_m2, b_at, b_v, b_d, b_c1, b_c2, b_c3, b_t1, b_t2, b_t3, ↓c_sl3, b_s, b_i, ↓c_itemC, b_i1, b_i2, b_b1, b_b2, ↓c_neg, ↓c_if, b_if, ↓c_dict, ↓c_list, b_l, ↓c_listm, b_lm, b_tu, ↓c_evs0, b_e1, b_e2, ↓c_bool, ↓c_bo1, ↓c_bo2, b_and, b_or, ↓c_lc, b_lc, b_lc2, b_ld, b_itl, b_itt, b_lz, b_lw, ↓c_itc, ↓c_not, b_not, ↓c_tbool, ↓c_or0, ↓c_and0, ↓c_or, ↓c_and, b_ao, b_aa, ↓c_tcall, b_tb, ↓c_ts0, ↓c_ts, b_ts, ↓exs_then, ↓c_exs0, b_next, b_ret, b_kret, ↓x_alc, ↓x_tt, b_tt, b_nx, ba_nil, ba_cons, ↓x_ti, b_ti, ↓x_store, b_st1, b_st2, b_st3, b_st4, ↓x_if, b_ifs, ↓x_for, b_for, ↓x_while, ↓x_expr, b_ex, b_fnr, b_fnn, ↓lvl_exz, ↓lvl_exs, call_bi, call_ty, freeze_d, ↓if_tt, ↓if_ff, if_true, if_false, Bool.not_true, Bool.not_false, lT, R]
 · simp -implicitDefEqProofs (disch := first | decide | exact rfl) only [bt_pair', bt_name', lk_miss, List.lookup_nil, Option.isNone_none, if_dec, set_miss, set_nil, lT, R, lk_app ok1, set_app ok1]
 · simp -implicitDefEqProofs (disch := first | exact keq rfl | decide | exact Nat.le_trans (by decide) (Nat.le_add_left _ _) | exact Nat.le_add_right_of_le (Nat.le_trans (by decide) (Nat.le_add_left _ _)) | exact pureT hT rfl rfl | exact pureTs hT rfl rfl | exact pureT ok1 rfl rfl | exact pureTs ok1 rfl rfl | exact pureT ok2 rfl rfl | exact pureTs ok2 rfl rfl | exact pureT ok3 rfl rfl | exact pureTs ok3 rfl rfl | exact pureT hT hno rfl | exact pureTs hT hno rfl | assumption | exact hset _ | fail) only [↓pureE_ok, ↓pureEs_ok, ↓d_evs, ↓d_tuple, b_asT, setT, ↓c_lc1', ↓c_lc2', dropT, cok3, ↓d_call, ↓p_call, ↓d_meth, ↓p_meth, ↓d_attr, ↓p_attr, ↓d_cmp, ↓p_cmp, ↓d_tcmp, ↓p_tcmp, ↓d_sl1, ↓p_sl1, ↓d_sl2, ↓p_sl2, ↓d_item, ↓p_item, ↓d_bin, ↓p_bin, ↓d_it, ↓p_it, ↓d_lazy, ↓p_lazy, ↓d_ret, ↓p_ret, ↓d_as, b_call, b_m1, b_m2, b_at, b_v, b_d, b_c1, b_c2, b_c3, b_t1, b_t2, b_t3, ↓c_sl3, b_s, b_i, ↓c_itemC, b_i1, b_i2, b_b1, b_b2, ↓c_neg, ↓c_if, b_if, ↓c_dict, ↓c_list, b_l, ↓c_listm, b_lm, b_tu, ↓c_evs0, b_e1, b_e2, ↓c_bool, ↓c_bo1, ↓c_bo2, b_and, b_or, ↓c_lc, b_lc, b_lc2, b_ld, b_itl, b_itt, b_lz, b_lw, ↓c_itc, ↓c_not, b_not, ↓c_tbool, ↓c_or0, ↓c_and0, ↓c_or, ↓c_and, b_ao, b_aa, ↓c_tcall, b_tb, ↓c_ts0, ↓c_ts, b_ts, ↓exs_then, ↓c_exs0, b_next, b_ret, b_kret, ↓x_alc, ↓x_tt, b_tt, b_nx, ba_nil, ba_cons, ↓x_ti, b_ti, ↓x_store, b_st1, b_st2, b_st3, b_st4, ↓x_if, b_ifs, ↓x_for, b_for, ↓x_while, ↓x_expr, b_ex, b_fnr, b_fnn, ↓lvl_exz, ↓lvl_exs, call_bi, call_ty, freeze_d, ↓if_tt, ↓if_ff, if_true, if_false, Bool.not_true, Bool.not_false, lT, R]
theorem seg2 (hT : TOk T) {μ : Sto} (hc : CupOk 0 b μ) (hb : b <= 80) (h1 : μ[1]? = some (.dict (rnD rs))) (hrl : rs.length <= 1000) (hμ : μ.length = 2) : Ends 2 (lT T sv []) μ := by
 obtain ⟨x, μ1, hx, c1, s1, e1⟩ := pat2 b μ hc (by omega) 497 (by decide)
 obtain ⟨y, μ2, hy, c2, s2, e2⟩ := pat2 _ μ1 c1 (by omega) 497 (by decide)
 have e1 : (Lvl PP 497).call (.con (.ref 182)) [.obj 0, .d (.int 2)] μ = some (.d x.enc, μ1) := e1
 have e2 : (Lvl PP 497).call (.con (.ref 182)) [.obj 0, .d (.int 2)] μ1 = some (.d y.enc, μ2) := e2
 have h12 : μ2[1]? = some (.dict (rnD rs)) := by rw [s2.2 1 (by decide), s1.2 1 (by decide), h1]
 have hl2 : μ2.length = 2 := by rw [s2.1, s1.1, hμ]
 have hU := uni_of hx hy
 unfold Ends
 rw [show lawF.body.drop 2 = _ :: _ :: _ :: lawF.body.drop 5 from rfl, show lawF.sc = ⟨_, _, _, _, _⟩ from rfl]
 generalize hrest : lawF.body.drop 5 = rest
 simp -implicitDefEqProofs (disch := first | exact keq rfl | decide | exact Nat.le_trans (by decide) (Nat.le_add_left _ _) | exact Nat.le_add_right_of_le (Nat.le_trans (by decide) (Nat.le_add_left _ _)) | exact pureT hT rfl rfl | exact pureTs hT rfl rfl | exact pureT ok1 rfl rfl | exact pureTs ok1 rfl rfl | exact pureT ok2 rfl rfl | exact pureTs ok2 rfl rfl | exact pureT ok3 rfl rfl | exact pureTs ok3 rfl rfl | exact pureT hT hno rfl | exact pureTs hT hno rfl | assumption | exact hset _ | fail) only [↓pureE_ok, ↓pureEs_ok, ↓d_evs, ↓d_tuple, b_asT, setT, ↓c_lc1', ↓c_lc2', dropT, cok3, ↓d_call, ↓p_call, ↓d_meth, ↓p_meth, ↓d_attr, ↓p_attr, ↓d_cmp, ↓p_cmp, ↓d_tcmp, ↓p_tcmp, ↓d_sl1, ↓p_sl1, ↓d_sl2, ↓p_sl2, ↓d_item, ↓p_item, ↓d_bin, ↓p_bin, ↓d_it, ↓p_it, ↓d_lazy, ↓p_lazy, ↓d_ret, ↓p_ret, ↓d_as, b_call, b_m1, b_m2, b_at, b_v, b_d, b_c1, b_c2, b_c3, b_t1, b_t2, b_t3, ↓c_sl3, b_s, b_i, ↓c_itemC, b_i1, b_i2, b_b1, b_b2, ↓c_neg, ↓c_if, b_if, ↓c_dict, ↓c_list, b_l, ↓c_listm, b_lm, b_tu, ↓c_evs0, b_e1, b_e2, ↓c_bool, ↓c_bo1, ↓c_bo2, b_and, b_or, ↓c_lc, b_lc, b_lc2, b_ld, b_itl, b_itt, b_lz, b_lw, ↓c_itc, ↓c_not, b_not, ↓c_tbool, ↓c_or0, ↓c_and0, ↓c_or, ↓c_and, b_ao, b_aa, ↓c_tcall, b_tb, ↓c_ts0, ↓c_ts, b_ts, ↓exs_then, ↓c_exs0, b_next, b_ret, b_kret, ↓x_alc, ↓x_tt, b_tt, b_nx, ba_nil, ba_cons, ↓x_ti, b_ti, ↓x_store, b_st1, b_st2, b_st3, b_st4, ↓x_if, b_ifs, ↓x_for, b_for, ↓x_while, ↓x_expr, b_ex, b_fnr, b_fnn, ↓lvl_exz, ↓lvl_exs, call_bi, call_ty, freeze_d, ↓if_tt, ↓if_ff, if_true, if_false, Bool.not_true, Bool.not_false, lT, e1, e2, fun M μ hM => inside_at x M μ hx hM, fun M μ hM => inside_at y M μ hy hM]
 generalize hT1 : dropL _ T = T1
 have ok1 : TOk T1 := hT1 ▸ drop_ok hT
 rw [comp_pure Tm.enc (fun z => lT T1 sv [(("one" : Str), V.d x.enc), (("other" : Str), V.d y.enc), (("some" : Str), V.d (.list ((insideOf x).map Tm.enc))), (("late" : Str), V.d z.enc)]) (fun z => !(insideOf x).contains z) Tm.enc (insideOf y) (fun z hz => ⟨?_, ?_, fun _ => ?_⟩)]
 · have i1 := inside_len x hx
   have i2 := inside_len y hy
   have i3 := List.length_filter_le (fun z => !(insideOf x).contains z) (insideOf y)
   have hsm : smallLen (((insideOf y).filter fun z => !(insideOf x).contains z).map Tm.enc) = true := small_of (by rw [List.length_map]; omega)
   have ad : binD .Add (.list ((insideOf x).map Tm.enc)) (.list (((insideOf y).filter fun z => !(insideOf x).contains z).map Tm.enc)) = some (.list ((addNew (insideOf x) (insideOf y)).map Tm.enc)) := by
     rw [add_list (by simp only [List.length_map]; omega), <- List.map_append]; rfl
   simp -implicitDefEqProofs (disch := first | exact keq rfl | decide | exact Nat.le_trans (by decide) (Nat.le_add_left _ _) | exact Nat.le_add_right_of_le (Nat.le_trans (by decide) (Nat.le_add_left _ _)) | exact pureT hT rfl rfl | exact pureTs hT rfl rfl | exact pureT ok1 rfl rfl | exact pureTs ok1 rfl rfl | exact pureT ok2 rfl rfl | exact pureTs ok2 rfl rfl | exact pureT ok3 rfl rfl | exact pureTs ok3 rfl rfl | exact pureT hT hno rfl | exact pureTs hT hno rfl | assumption | exact hset _ | fail) only [↓pureE_ok, ↓pureEs_ok, ↓d_evs, ↓d_tuple, b_asT, setT, ↓c_lc1', ↓c_lc2', dropT, cok3, ↓d_call, ↓p_call, ↓d_meth, ↓p_meth, ↓d_attr, ↓p_attr, ↓d_cmp, ↓p_cmp, ↓d_tcmp, ↓p_tcmp, ↓d_sl1, ↓p_sl1, ↓d_sl2, ↓p_sl2, ↓d_item, ↓p_item, ↓d_bin, ↓p_bin, ↓d_it, ↓p_it, ↓d_lazy, ↓p_lazy, ↓d_ret, ↓p_ret, ↓d_as, b_call, b_m1, b_m2, b_at, b_v, b_d, b_c1, b_c2, b_c3, b_t1, b_t2, b_t3, ↓c_sl3, b_s, b_i, ↓c_itemC, b_i1, b_i2, b_b1, b_b2, ↓c_neg, ↓c_if, b_if, ↓c_dict, ↓c_list, b_l, ↓c_listm, b_lm, b_tu, ↓c_evs0, b_e1, b_e2, ↓c_bool, ↓c_bo1, ↓c_bo2, b_and, b_or, ↓c_lc, b_lc, b_lc2, b_ld, b_itl, b_itt, b_lz, b_lw, ↓c_itc, ↓c_not, b_not, ↓c_tbool, ↓c_or0, ↓c_and0, ↓c_or, ↓c_and, b_ao, b_aa, ↓c_tcall, b_tb, ↓c_ts0, ↓c_ts, b_ts, ↓exs_then, ↓c_exs0, b_next, b_ret, b_kret, ↓x_alc, ↓x_tt, b_tt, b_nx, ba_nil, ba_cons, ↓x_ti, b_ti, ↓x_store, b_st1, b_st2, b_st3, b_st4, ↓x_if, b_ifs, ↓x_for, b_for, ↓x_while, ↓x_expr, b_ex, b_fnr, b_fnn, ↓lvl_exz, ↓lvl_exs, call_bi, call_ty, freeze_d, ↓if_tt, ↓if_ff, if_true, if_false, Bool.not_true, Bool.not_false, hsm, ad]
   subst hrest
   exact seg5 hT hU h12 hrl hl2
 · simp -implicitDefEqProofs (disch := first | decide | exact rfl) only [bt_pair', bt_name', lk_miss, List.lookup_nil, Option.isNone_none, if_dec, set_miss, set_nil, lT, lk_app ok1, set_app ok1]
 · have hn := notin_tm (μ := μ2) (f := insideOf x) (x := z) (by have := inside_ht y z hz; omega) (fun w hw => by have := inside_ht x w hw; omega)
   simp -implicitDefEqProofs (disch := first | exact keq rfl | decide | exact Nat.le_trans (by decide) (Nat.le_add_left _ _) | exact Nat.le_add_right_of_le (Nat.le_trans (by decide) (Nat.le_add_left _ _)) | exact pureT hT rfl rfl | exact pureTs hT rfl rfl | exact pureT ok1 rfl rfl | exact pureTs ok1 rfl rfl | exact pureT ok2 rfl rfl | exact pureTs ok2 rfl rfl | exact pureT ok3 rfl rfl | exact pureTs ok3 rfl rfl | exact pureT hT hno rfl | exact pureTs hT hno rfl | assumption | exact hset _ | fail) only [↓pureE_ok, ↓pureEs_ok, ↓d_evs, ↓d_tuple, b_asT, setT, ↓c_lc1', ↓c_lc2', dropT, cok3, ↓d_call, ↓p_call, ↓d_meth, ↓p_meth, ↓d_attr, ↓p_attr, ↓d_cmp, ↓p_cmp, ↓d_tcmp, ↓p_tcmp, ↓d_sl1, ↓p_sl1, ↓d_sl2, ↓p_sl2, ↓d_item, ↓p_item, ↓d_bin, ↓p_bin, ↓d_it, ↓p_it, ↓d_lazy, ↓p_lazy, ↓d_ret, ↓p_ret, ↓d_as, b_call, b_m1, b_m2, b_at, b_v, b_d, b_c1, b_c2, b_c3, b_t1, b_t2, b_t3, ↓c_sl3, b_s, b_i, ↓c_itemC, b_i1, b_i2, b_b1, b_b2, ↓c_neg, ↓c_if, b_if, ↓c_dict, ↓c_list, b_l, ↓c_listm, b_lm, b_tu, ↓c_evs0, b_e1, b_e2, ↓c_bool, ↓c_bo1, ↓c_bo2, b_and, b_or, ↓c_lc, b_lc, b_lc2, b_ld, b_itl, b_itt, b_lz, b_lw, ↓c_itc, ↓c_not, b_not, ↓c_tbool, ↓c_or0, ↓c_and0, ↓c_or, ↓c_and, b_ao, b_aa, ↓c_tcall, b_tb, ↓c_ts0, ↓c_ts, b_ts, ↓exs_then, ↓c_exs0, b_next, b_ret, b_kret, ↓x_alc, ↓x_tt, b_tt, b_nx, ba_nil, ba_cons, ↓x_ti, b_ti, ↓x_store, b_st1, b_st2, b_st3, b_st4, ↓x_if, b_ifs, ↓x_for, b_for, ↓x_while, ↓x_expr, b_ex, b_fnr, b_fnn, ↓lvl_exz, ↓lvl_exs, call_bi, call_ty, freeze_d, ↓if_tt, ↓if_ff, if_true, if_false, Bool.not_true, Bool.not_false, lT, hn]
   cases (insideOf x).contains z <;> rfl
 · simp -implicitDefEqProofs (disch := first | exact keq rfl | decide | exact Nat.le_trans (by decide) (Nat.le_add_left _ _) | exact Nat.le_add_right_of_le (Nat.le_trans (by decide) (Nat.le_add_left _ _)) | exact pureT hT rfl rfl | exact pureTs hT rfl rfl | exact pureT ok1 rfl rfl | exact pureTs ok1 rfl rfl | exact pureT ok2 rfl rfl | exact pureTs ok2 rfl rfl | exact pureT ok3 rfl rfl | exact pureTs ok3 rfl rfl | exact pureT hT hno rfl | exact pureTs hT hno rfl | assumption | exact hset _ | fail) only [↓pureE_ok, ↓pureEs_ok, ↓d_evs, ↓d_tuple, b_asT, setT, ↓c_lc1', ↓c_lc2', dropT, cok3, ↓d_call, ↓p_call, ↓d_meth, ↓p_meth, ↓d_attr, ↓p_attr, ↓d_cmp, ↓p_cmp, ↓d_tcmp, ↓p_tcmp, ↓d_sl1, ↓p_sl1, ↓d_sl2, ↓p_sl2, ↓d_item, ↓p_item, ↓d_bin, ↓p_bin, ↓d_it, ↓p_it, ↓d_lazy, ↓p_lazy, ↓d_ret, ↓p_ret, ↓d_as, b_call, b_m1, b_m2, b_at, b_v, b_d, b_c1, b_c2, b_c3, b_t1, b_t2, b_t3, ↓c_sl3, b_s, b_i, ↓c_itemC, b_i1, b_i2, b_b1, b_b2, ↓c_neg, ↓c_if, b_if, ↓c_dict, ↓c_list, b_l, ↓c_listm, b_lm, b_tu, ↓c_evs0, b_e1, b_e2, ↓c_bool, ↓c_bo1, ↓c_bo2, b_and, b_or, ↓c_lc, b_lc, b_lc2, b_ld, b_itl, b_itt, b_lz, b_lw, ↓c_itc, ↓c_not, b_not, ↓c_tbool, ↓c_or0, ↓c_and0, ↓c_or, ↓c_and, b_ao, b_aa, ↓c_tcall, b_tb, ↓c_ts0, ↓c_ts, b_ts, ↓exs_then, ↓c_exs0, b_next, b_ret, b_kret, ↓x_alc, ↓x_tt, b_tt, b_nx, ba_nil, ba_cons, ↓x_ti, b_ti, ↓x_store, b_st1, b_st2, b_st3, b_st4, ↓x_if, b_ifs, ↓x_for, b_for, ↓x_while, ↓x_expr, b_ex, b_fnr, b_fnn, ↓lvl_exz, ↓lvl_exs, call_bi, call_ty, freeze_d, ↓if_tt, ↓if_ff, if_true, if_false, Bool.not_true, Bool.not_false, lT]
end
end Mine.L
end
section
namespace Mine.L
open PySem
theorem put_len (cs : List (Str × Int)) (x : Str) (v : Int) : (putS cs x v).length <= cs.length + 1 := by
 unfold putS
 by_cases h : (cs.any fun p => p.1 == x) = true
 · rw [if_pos h, List.length_map]; exact Nat.le_succ _
 · rw [if_neg h, List.length_append]; exact Nat.le_refl _
theorem store_rn {μ : Sto} {i : Nat} {cs : List (Str × Int)} {x : Str} {v : Int} (hi : μ[i]? = some (.dict (rnD cs))) (h : cs.length <= 100000) : storeM μ (.obj i) (.d (.str x)) (.d (.int v)) = some (μ.set i (.dict (rnD (putS cs x v)))) := by
 show (μ[i]?).bind _ = _
 rw [hi]
 show (if askOk (.str x) (rnD cs) && true && decide ((rnD cs).length <= 100000) then some (μ.set i (.dict (PyProof.V.putD (.str x) (.int v) (rnD cs)))) else none) = _
 rw [if_pos (by rw [ask_str, show (rnD cs).length = cs.length from List.length_map ..]; exact decide_eq_true h), put_rn]
theorem CupOk.other {i j b : Nat} {μ : Sto} {m : MO} (h : CupOk i b μ) (hj : j ≠ i) : CupOk i b (μ.set j m) := by
 obtain ⟨cells, a, h1, h2, h3, h4⟩ := h.ex
 exact ⟨cells, a, by rw [List.getElem?_set_ne hj]; exact h1, h2, h3, h4⟩
theorem tok_nil : TOk [] := ⟨fun _ _ => rfl⟩
theorem tok_two (u v : V) : TOk [(("op" : Str), u), (("rank" : Str), v)] := ⟨fun k h => by
 have h := Bool.or_eq_false_iff.mp h
 rw [lk_miss h.1, lk_miss h.2]; rfl⟩
section
variable {sv : V} {b : Nat} {μ : Sto}
theorem sip_at (hc : CupOk 0 b μ) (hb : b <= 100) (many : Nat) (hm : 0 < many) (hm' : many <= 100) (M : Nat) (hM : 20 <= M) : ∃ (r : Nat) (μ' : Sto), r < many /\ CupOk 0 (b + 1) μ' /\ SameB 0 μ μ' /\ (Lvl PP M).call (.con (.ref 177)) [.obj 0, .d (.int many)] μ = some (.d (.int r), μ') := by
 exact Nat.sub_add_cancel hM ▸ sip_fn (M - 20) hc hb many hm hm'
theorem seg1 (hc : CupOk 0 0 μ) (h1 : μ[1]? = some (.dict [])) (hμ : μ.length = 2) : Ends 1 (lT [] sv []) μ := by
 obtain ⟨r, μ1, hr, c1, s1, e1⟩ := sip_at hc (by decide) 3 (by decide) (by decide) 495 (by decide)
 have e1 : (Lvl PP 495).call (.con (.ref 177)) [.obj 0, .d (.int 3)] μ = some (.d (.int r), μ1) := e1
 have g1 : μ1[1]? = some (.dict (rnD [])) := by rw [s1.2 1 (by decide), h1]; rfl
 have l1 : μ1.length = 2 := s1.1.trans hμ
 unfold Ends
 rw [show lawF.body.drop 1 = _ :: lawF.body.drop 2 from rfl, show lawF.sc = ⟨_, _, _, _, _⟩ from rfl]
 generalize hrest : lawF.body.drop 2 = rest
 obtain ⟨L, hL, hI⟩ : ∃ L : List Str, L.length <= 5 /\ (if decide ((0 : Int) < r) = true then some (V.d (.list [.str "a", .str "b", .str "f", .str "h", .str "fb"]), μ1) else some (V.d (.list []), μ1)) = some (V.d (.list (L.map .str)), μ1) := by
   cases decide ((0 : Int) < r) with
   | true => exact ⟨["a", "b", "f", "h", "fb"], by decide, rfl⟩
   | false => exact ⟨[], by decide, rfl⟩
 simp -implicitDefEqProofs (disch := first | exact keq rfl | decide | exact Nat.le_trans (by decide) (Nat.le_add_left _ _) | exact Nat.le_add_right_of_le (Nat.le_trans (by decide) (Nat.le_add_left _ _)) | (simp only [List.map_cons, List.map_nil]; decide)) only [↓pureE_ok, ↓pureEs_ok, ↓d_evs, ↓d_tuple, b_as, ↓c_lc1, ↓c_lc2, ↓d_call, ↓p_call, ↓d_meth, ↓p_meth, ↓d_attr, ↓p_attr, ↓d_cmp, ↓p_cmp, ↓d_tcmp, ↓p_tcmp, ↓d_sl1, ↓p_sl1, ↓d_sl2, ↓p_sl2, ↓d_item, ↓p_item, ↓d_bin, ↓p_bin, ↓d_it, ↓p_it, ↓d_lazy, ↓p_lazy, ↓d_ret, ↓p_ret, ↓d_as, ↓p_as, b_call, b_m1, b_m2, b_at, b_v, b_d, b_c1, b_c2, b_c3, b_t1, b_t2, b_t3, ↓c_sl3, b_s, b_i, ↓c_itemC, b_i1, b_i2, b_b1, b_b2, ↓c_neg, ↓c_if, b_if, ↓c_dict, ↓c_list, b_l, ↓c_listm, b_lm, b_tu, ↓c_evs0, b_e1, b_e2, ↓c_bool, ↓c_bo1, ↓c_bo2, b_and, b_or, ↓c_lc, b_lc, b_lc2, b_ld, b_itl, b_itt, b_lz, b_lw, ↓c_itc, ↓c_not, b_not, ↓c_tbool, ↓c_or0, ↓c_and0, ↓c_or, ↓c_and, b_ao, b_aa, ↓c_tcall, b_tb, ↓c_ts0, ↓c_ts, b_ts, ↓exs_then, ↓c_exs0, b_next, b_ret, b_kret, ↓x_alc, ↓x_tt, b_tt, b_nx, ba_nil, ba_cons, ↓x_ti, b_ti, ↓x_store, b_st1, b_st2, b_st3, b_st4, ↓x_if, b_ifs, ↓x_for, b_for, ↓x_while, ↓x_expr, b_ex, b_fnr, b_fnn, ↓lvl_exz, ↓lvl_exs, call_bi, call_ty, freeze_d, ↓if_tt, ↓if_ff, if_true, if_false, Bool.not_true, Bool.not_false, lT, List.append_nil, e1, gt_int, hI]
 generalize hZ : forM _ _ _ _ _ _ _ = Z
 have hq := for_inv PyData.str (fun l ρ μ => (∃ T, (T = [] \/ ∃ u v, T = [(("op" : Str), u), (("rank" : Str), v)]) /\ ρ = (("script" : Str), sv) :: (("cup" : Str), V.obj 0) :: (("ranks" : Str), V.obj 1) :: T) /\ CupOk 0 (20 - l.length) μ /\ μ.length = 2 /\ ∃ rs, μ[1]? = some (.dict (rnD rs)) /\ rs.length + l.length <= 5)
   L _ μ1 Z hZ ⟨⟨[], .inl rfl, rfl⟩, c1.mono (by omega), l1, [], g1, by simpa using hL⟩ ?_
 · obtain ⟨ρ', μ2, rfl, ⟨T, hT, rfl⟩, c2, l2, rs, g2, hrs⟩ := hq
   have hT' : TOk T := by
     rcases hT with rfl | ⟨u, v, rfl⟩
     · exact tok_nil
     · exact tok_two u v
   subst hrest
   have this := seg2 (sv := sv) hT' c2 (Nat.le_trans (Nat.sub_le ..) (by decide)) g2 (Nat.le_trans (Nat.le_trans (Nat.le_add_right _ _) hrs) (by decide)) l2
   unfold lT at this
   rw [List.append_nil] at this
   obtain ⟨r1, m1, e⟩ := this
   exact ⟨r1, m1, b_next.trans e⟩
 · clear hZ c1 s1 e1 g1 l1 hI hL hc h1 hμ
   rintro x l ρ μ ⟨⟨T, hT, rfl⟩, hc, hμ, rs, h1, hrs⟩
   simp only [List.length_cons] at hc hrs
   obtain ⟨D, hb, hD⟩ : ∃ D : Loc, setL "op" (.d (.str x)) T = (("op" : Str), V.d (.str x)) :: D /\ ∀ v, setL "rank" v D = [(("rank" : Str), v)] := by
     rcases hT with rfl | ⟨u, v, rfl⟩
     · exact ⟨[], rfl, fun _ => rfl⟩
     · exact ⟨[(("rank" : Str), v)], rfl, fun _ => rfl⟩
   obtain ⟨r, μ1, hr, c1, s1, e1⟩ := sip_at hc (by omega) 7 (by decide) (by decide) 496 (by decide)
   have e1 : (Lvl PP 496).call (.con (.ref 177)) [.obj 0, .d (.int 7)] μ = some (.d (.int r), μ1) := e1
   have g1 : μ1[1]? = some (.dict (rnD rs)) := by rw [s1.2 1 (by decide), h1]
   have l1 : μ1.length = 2 := s1.1.trans hμ
   have hbind : ∀ {sc : Scope} {p : Pos}, okN sc true "op" = true -> bindT sc true (.Name "op" p) (.str x) ((("script" : Str), sv) :: (("cup" : Str), V.obj 0) :: (("ranks" : Str), V.obj 1) :: T) = some ((("script" : Str), sv) :: (("cup" : Str), V.obj 0) :: (("ranks" : Str), V.obj 1) :: (("op" : Str), V.d (.str x)) :: D) := by
     intro sc p h
     show (if okN sc true "op" && (true || _) then _ else _) = _
     rw [h, <- hb]
     simp (disch := decide) only [set_miss]
     rfl
   have hc1 : CupOk 0 (20 - l.length) μ1 := c1.mono (by omega)
   have su : binD .Sub (.int r) (.int 2) = some (.int ((r : Int) - 2)) := sub_int (small_i (by omega) (by omega)) (by decide)
   have hst := store_rn (x := x) (v := (r : Int) - 2) g1 (by omega)
   have hpl := put_len rs x ((r : Int) - 2)
   have g2 : (μ1.set 1 (.dict (rnD (putS rs x ((r : Int) - 2)))))[1]? = some (.dict (rnD (putS rs x ((r : Int) - 2)))) := List.getElem?_set_self (by omega)
   by_cases h5 : (r : Int) < 5
   · refine ⟨_, (("script" : Str), sv) :: (("cup" : Str), V.obj 0) :: (("ranks" : Str), V.obj 1) :: [(("op" : Str), V.d (.str x)), (("rank" : Str), V.d (.int r))], μ1.set 1 (.dict (rnD (putS rs x ((r : Int) - 2)))), hbind (by decide), ?_, ⟨_, .inr ⟨_, _, rfl⟩, rfl⟩, hc1.other (by decide), by rw [List.length_set, l1], _, g2, by omega⟩
     simp -implicitDefEqProofs (disch := first | exact keq rfl | decide | exact Nat.le_trans (by decide) (Nat.le_add_left _ _) | exact Nat.le_add_right_of_le (Nat.le_trans (by decide) (Nat.le_add_left _ _)) | (simp only [List.map_cons, List.map_nil]; decide)) only [↓pureE_ok, ↓pureEs_ok, ↓d_evs, ↓d_tuple, b_as, ↓c_lc1, ↓c_lc2, ↓d_call, ↓p_call, ↓d_meth, ↓p_meth, ↓d_attr, ↓p_attr, ↓d_cmp, ↓p_cmp, ↓d_tcmp, ↓p_tcmp, ↓d_sl1, ↓p_sl1, ↓d_sl2, ↓p_sl2, ↓d_item, ↓p_item, ↓d_bin, ↓p_bin, ↓d_it, ↓p_it, ↓d_lazy, ↓p_lazy, ↓d_ret, ↓p_ret, ↓d_as, ↓p_as, b_call, b_m1, b_m2, b_at, b_v, b_d, b_c1, b_c2, b_c3, b_t1, b_t2, b_t3, ↓c_sl3, b_s, b_i, ↓c_itemC, b_i1, b_i2, b_b1, b_b2, ↓c_neg, ↓c_if, b_if, ↓c_dict, ↓c_list, b_l, ↓c_listm, b_lm, b_tu, ↓c_evs0, b_e1, b_e2, ↓c_bool, ↓c_bo1, ↓c_bo2, b_and, b_or, ↓c_lc, b_lc, b_lc2, b_ld, b_itl, b_itt, b_lz, b_lw, ↓c_itc, ↓c_not, b_not, ↓c_tbool, ↓c_or0, ↓c_and0, ↓c_or, ↓c_and, b_ao, b_aa, ↓c_tcall, b_tb, ↓c_ts0, ↓c_ts, b_ts, ↓exs_then, ↓c_exs0, b_next, b_ret, b_kret, ↓x_alc, ↓x_tt, b_tt, b_nx, ba_nil, ba_cons, ↓x_ti, b_ti, ↓x_store, b_st1, b_st2, b_st3, b_st4, ↓x_if, b_ifs, ↓x_for, b_for, ↓x_while, ↓x_expr, b_ex, b_fnr, b_fnn, ↓lvl_exz, ↓lvl_exs, call_bi, call_ty, freeze_d, ↓if_tt, ↓if_ff, if_true, if_false, Bool.not_true, Bool.not_false, b_as', set_miss, e1, hD, lt_int, decide_eq_true h5, su, hst]
   · refine ⟨_, (("script" : Str), sv) :: (("cup" : Str), V.obj 0) :: (("ranks" : Str), V.obj 1) :: [(("op" : Str), V.d (.str x)), (("rank" : Str), V.d (.int r))], μ1, hbind (by decide), ?_, ⟨_, .inr ⟨_, _, rfl⟩, rfl⟩, hc1, l1, _, g1, by omega⟩
     simp -implicitDefEqProofs (disch := first | exact keq rfl | decide | exact Nat.le_trans (by decide) (Nat.le_add_left _ _) | exact Nat.le_add_right_of_le (Nat.le_trans (by decide) (Nat.le_add_left _ _)) | (simp only [List.map_cons, List.map_nil]; decide)) only [↓pureE_ok, ↓pureEs_ok, ↓d_evs, ↓d_tuple, b_as, ↓c_lc1, ↓c_lc2, ↓d_call, ↓p_call, ↓d_meth, ↓p_meth, ↓d_attr, ↓p_attr, ↓d_cmp, ↓p_cmp, ↓d_tcmp, ↓p_tcmp, ↓d_sl1, ↓p_sl1, ↓d_sl2, ↓p_sl2, ↓d_item, ↓p_item, ↓d_bin, ↓p_bin, ↓d_it, ↓p_it, ↓d_lazy, ↓p_lazy, ↓d_ret, ↓p_ret, ↓d_as, ↓p_as, b_call, b_m1, b_m2, b_at, b_v, b_d, b_c1, b_c2, b_c3, b_t1, b_t2, b_t3, ↓c_sl3, b_s, b_i, ↓c_itemC, b_i1, b_i2, b_b1, b_b2, ↓c_neg, ↓c_if, b_if, ↓c_dict, ↓c_list, b_l, ↓c_listm, b_lm, b_tu, ↓c_evs0, b_e1, b_e2, ↓c_bool, ↓c_bo1, ↓c_bo2, b_and, b_or, ↓c_lc, b_lc, b_lc2, b_ld, b_itl, b_itt, b_lz, b_lw, ↓c_itc, ↓c_not, b_not, ↓c_tbool, ↓c_or0, ↓c_and0, ↓c_or, ↓c_and, b_ao, b_aa, ↓c_tcall, b_tb, ↓c_ts0, ↓c_ts, b_ts, ↓exs_then, ↓c_exs0, b_next, b_ret, b_kret, ↓x_alc, ↓x_tt, b_tt, b_nx, ba_nil, ba_cons, ↓x_ti, b_ti, ↓x_store, b_st1, b_st2, b_st3, b_st4, ↓x_if, b_ifs, ↓x_for, b_for, ↓x_while, ↓x_expr, b_ex, b_fnr, b_fnn, ↓lvl_exz, ↓lvl_exs, call_bi, call_ty, freeze_d, ↓if_tt, ↓if_ff, if_true, if_false, Bool.not_true, Bool.not_false, b_as', set_miss, e1, hD, lt_int, decide_eq_false h5]
end
end Mine.L
end
section
namespace Mine.L
open PySem
theorem ty_int {μ : Sto} {i : Int} : builtinM μ (.type "int") [.d (.int i)] = some (.d (.int i), μ) := rfl
theorem seg0 (ns : List Int) (h : ns.length <= 63) : ∃ ρ' μ', stepExs PP (Lvl PP 498) lawF.sc lawF.body [(("script" : Str), V.d (.list (ns.map .int)))] [] = some (.ret (.d (.bool true)), ρ', μ') := by
 rw [show lawF.body = _ :: lawF.body.drop 1 from rfl, show lawF.sc = ⟨_, _, _, _, _⟩ from rfl]
 generalize hrest : lawF.body.drop 1 = rest
 have hsm : smallLen (ns.map .int) = true := small_of (by rw [List.length_map]; omega)
 simp -implicitDefEqProofs (disch := first | exact keq rfl | decide | exact Nat.le_trans (by decide) (Nat.le_add_left _ _) | exact Nat.le_add_right_of_le (Nat.le_trans (by decide) (Nat.le_add_left _ _)) | (simp only [List.map_cons, List.map_nil]; decide)) only [↓pureE_ok, ↓pureEs_ok, ↓d_evs, ↓d_tuple, b_as, ↓c_lc1, ↓c_lc2, ↓d_call, ↓p_call, ↓d_meth, ↓p_meth, ↓d_attr, ↓p_attr, ↓d_cmp, ↓p_cmp, ↓d_tcmp, ↓p_tcmp, ↓d_sl1, ↓p_sl1, ↓d_sl2, ↓p_sl2, ↓d_item, ↓p_item, ↓d_bin, ↓p_bin, ↓d_it, ↓p_it, ↓d_lazy, ↓p_lazy, ↓d_ret, ↓p_ret, ↓d_as, ↓p_as, b_call, b_m1, b_m2, b_at, b_v, b_d, b_c1, b_c2, b_c3, b_t1, b_t2, b_t3, ↓c_sl3, b_s, b_i, ↓c_itemC, b_i1, b_i2, b_b1, b_b2, ↓c_neg, ↓c_if, b_if, ↓c_dict, ↓c_list, b_l, ↓c_listm, b_lm, b_tu, ↓c_evs0, b_e1, b_e2, ↓c_bool, ↓c_bo1, ↓c_bo2, b_and, b_or, ↓c_lc, b_lc, b_lc2, b_ld, b_itl, b_itt, b_lz, b_lw, ↓c_itc, ↓c_not, b_not, ↓c_tbool, ↓c_or0, ↓c_and0, ↓c_or, ↓c_and, b_ao, b_aa, ↓c_tcall, b_tb, ↓c_ts0, ↓c_ts, b_ts, ↓exs_then, ↓c_exs0, b_next, b_ret, b_kret, ↓x_alc, ↓x_tt, b_tt, b_nx, ba_nil, ba_cons, ↓x_ti, b_ti, ↓x_store, b_st1, b_st2, b_st3, b_st4, ↓x_if, b_ifs, ↓x_for, b_for, ↓x_while, ↓x_expr, b_ex, b_fnr, b_fnn, ↓lvl_exz, ↓lvl_exs, call_bi, call_ty, freeze_d, ↓if_tt, ↓if_ff, if_true, if_false, Bool.not_true, Bool.not_false, take_lst hsm, <- List.map_take]
 rw [comp_pure PyData.int (fun x => [(("script" : Str), V.d (.list (ns.map .int))), (("cell" : Str), V.d (.int x))]) (fun _ => true) (fun x => .int (x % 1000003)) (ns.take 40) (fun x hx => ⟨by rfl, rfl, fun _ => ?_⟩)]
 · rw [filter_true]
   have hs2 : smallLen ((ns.take 40).map fun x => PyData.int (x % 1000003)) = true := small_of (by rw [List.length_map, List.length_take]; omega)
   simp -implicitDefEqProofs (disch := first | exact keq rfl | decide | exact Nat.le_trans (by decide) (Nat.le_add_left _ _) | exact Nat.le_add_right_of_le (Nat.le_trans (by decide) (Nat.le_add_left _ _)) | (simp only [List.map_cons, List.map_nil]; decide)) only [↓pureE_ok, ↓pureEs_ok, ↓d_evs, ↓d_tuple, b_as, ↓c_lc1, ↓c_lc2, ↓d_call, ↓p_call, ↓d_meth, ↓p_meth, ↓d_attr, ↓p_attr, ↓d_cmp, ↓p_cmp, ↓d_tcmp, ↓p_tcmp, ↓d_sl1, ↓p_sl1, ↓d_sl2, ↓p_sl2, ↓d_item, ↓p_item, ↓d_bin, ↓p_bin, ↓d_it, ↓p_it, ↓d_lazy, ↓p_lazy, ↓d_ret, ↓p_ret, ↓d_as, ↓p_as, b_call, b_m1, b_m2, b_at, b_v, b_d, b_c1, b_c2, b_c3, b_t1, b_t2, b_t3, ↓c_sl3, b_s, b_i, ↓c_itemC, b_i1, b_i2, b_b1, b_b2, ↓c_neg, ↓c_if, b_if, ↓c_dict, ↓c_list, b_l, ↓c_listm, b_lm, b_tu, ↓c_evs0, b_e1, b_e2, ↓c_bool, ↓c_bo1, ↓c_bo2, b_and, b_or, ↓c_lc, b_lc, b_lc2, b_ld, b_itl, b_itt, b_lz, b_lw, ↓c_itc, ↓c_not, b_not, ↓c_tbool, ↓c_or0, ↓c_and0, ↓c_or, ↓c_and, b_ao, b_aa, ↓c_tcall, b_tb, ↓c_ts0, ↓c_ts, b_ts, ↓exs_then, ↓c_exs0, b_next, b_ret, b_kret, ↓x_alc, ↓x_tt, b_tt, b_nx, ba_nil, ba_cons, ↓x_ti, b_ti, ↓x_store, b_st1, b_st2, b_st3, b_st4, ↓x_if, b_ifs, ↓x_for, b_for, ↓x_while, ↓x_expr, b_ex, b_fnr, b_fnn, ↓lvl_exz, ↓lvl_exs, call_bi, call_ty, freeze_d, ↓if_tt, ↓if_ff, if_true, if_false, Bool.not_true, Bool.not_false, hs2]
   have h0 : CupOk 0 0 [MO.list [PyData.list ((ns.take 40).map fun x => PyData.int (x % 1000003)), .int 0], MO.dict []] := by
     refine ⟨(ns.take 40).map (· % 1000003), 0, ?_, by rw [List.length_map, List.length_take]; omega, fun c hc => ?_, Nat.le_refl _⟩
     · unfold cupL
       rw [List.map_map]; rfl
     · obtain ⟨x, _, rfl⟩ := List.mem_map.mp hc
       exact ⟨Int.emod_nonneg _ (by decide), Int.emod_lt_of_pos _ (by decide)⟩
   have := seg1 (sv := V.d (.list (ns.map .int))) h0 rfl rfl
   subst hrest
   unfold Ends lT at this
   exact this
 · have hm := mod_int (a := x) (b := 1000003) (by decide) (by decide)
   simp -implicitDefEqProofs (disch := first | exact keq rfl | decide | exact Nat.le_trans (by decide) (Nat.le_add_left _ _) | exact Nat.le_add_right_of_le (Nat.le_trans (by decide) (Nat.le_add_left _ _)) | (simp only [List.map_cons, List.map_nil]; decide)) only [↓pureE_ok, ↓pureEs_ok, ↓d_evs, ↓d_tuple, b_as, ↓c_lc1, ↓c_lc2, ↓d_call, ↓p_call, ↓d_meth, ↓p_meth, ↓d_attr, ↓p_attr, ↓d_cmp, ↓p_cmp, ↓d_tcmp, ↓p_tcmp, ↓d_sl1, ↓p_sl1, ↓d_sl2, ↓p_sl2, ↓d_item, ↓p_item, ↓d_bin, ↓p_bin, ↓d_it, ↓p_it, ↓d_lazy, ↓p_lazy, ↓d_ret, ↓p_ret, ↓d_as, ↓p_as, b_call, b_m1, b_m2, b_at, b_v, b_d, b_c1, b_c2, b_c3, b_t1, b_t2, b_t3, ↓c_sl3, b_s, b_i, ↓c_itemC, b_i1, b_i2, b_b1, b_b2, ↓c_neg, ↓c_if, b_if, ↓c_dict, ↓c_list, b_l, ↓c_listm, b_lm, b_tu, ↓c_evs0, b_e1, b_e2, ↓c_bool, ↓c_bo1, ↓c_bo2, b_and, b_or, ↓c_lc, b_lc, b_lc2, b_ld, b_itl, b_itt, b_lz, b_lw, ↓c_itc, ↓c_not, b_not, ↓c_tbool, ↓c_or0, ↓c_and0, ↓c_or, ↓c_and, b_ao, b_aa, ↓c_tcall, b_tb, ↓c_ts0, ↓c_ts, b_ts, ↓exs_then, ↓c_exs0, b_next, b_ret, b_kret, ↓x_alc, ↓x_tt, b_tt, b_nx, ba_nil, ba_cons, ↓x_ti, b_ti, ↓x_store, b_st1, b_st2, b_st3, b_st4, ↓x_if, b_ifs, ↓x_for, b_for, ↓x_while, ↓x_expr, b_ex, b_fnr, b_fnn, ↓lvl_exz, ↓lvl_exs, call_bi, call_ty, freeze_d, ↓if_tt, ↓if_ff, if_true, if_false, Bool.not_true, Bool.not_false, ty_int, hm]
noncomputable def LawTrue : Prop := ∀ ns : List Int, ns.length <= 63 -> ∃ n μ', n <= 500 /\ (Lvl PP n).call (.con (.ref 221)) [.d (.list (ns.map .int))] [] = some (.d (.bool true), μ')
theorem law_true : LawTrue := by
 intro ns h
 obtain ⟨ρ', μ', e⟩ := seg0 ns h
 refine ⟨500, μ', Nat.le_refl _, ?_⟩
 rw [call_fn (show PP.fn 221 = some lawF from rfl) rfl]
 show (Option.bind (stepExs PP (Lvl PP 498) lawF.sc lawF.body [(("script" : Str), V.d (.list (ns.map .int)))] []) _) = _
 rw [e]; rfl
end Mine.L
end
section
namespace Mine
open PySem PyProof.Rows
noncomputable def Sub (G h : Heap) : Prop := ∀ b o, G.get? b = some o -> h.get? b = some o
theorem Sub.refl (h : Heap) : Sub h h := fun _ _ e => e
theorem Sub.trans {a b c : Heap} (x : Sub a b) (y : Sub b c) : Sub a c := fun _ _ e => y _ _ (x _ _ e)
noncomputable def freedObj : Obj := { cls := .none, data := .freed }
noncomputable def plus (G : Heap) (a : Addr) (o : Obj) : Heap :=
 ⟨((List.range (max G.objs.size (a + 1))).map fun b => if b = a then o else (G.get? b).getD freedObj).toArray, {}⟩
theorem get_some {h : Heap} {a : Addr} {o : Obj} : h.get? a = some o ↔ h.objs[a]? = some o /\ o.isFreed = false := by
 unfold Heap.get?
 cases hq : h.objs[a]? with
 | none => exact ⟨fun e => no_some e, fun e => no_some e.1⟩
 | some x =>
   obtain ⟨c, d, dt, sl⟩ := x
   cases dt <;> first | exact ⟨fun e => ⟨e, Option.some.inj e ▸ rfl⟩, fun e => e.1⟩ | exact ⟨fun e => no_some e, fun e => no_ft (e.2.symm.trans (Option.some.inj e.1 ▸ rfl))⟩
theorem plus_self {G : Heap} {a : Addr} {o : Obj} (hf : o.isFreed = false) : (plus G a o).get? a = some o := by
 refine get_some.mpr ⟨?_, hf⟩
 unfold plus
 have : a < max G.objs.size (a + 1) := Nat.lt_of_lt_of_le (Nat.lt_succ_self a) (Nat.le_max_right _ _)
 simp [this]
theorem plus_other {G : Heap} {a b : Addr} {o : Obj} (hab : b ≠ a) : (plus G a o).get? b = G.get? b := by
 apply Option.ext
 intro x
 rw [get_some]
 constructor
 · rintro ⟨e, f⟩
   unfold plus at e
   simp only [List.getElem?_toArray, List.getElem?_map] at e
   cases hr : (List.range (max G.objs.size (a + 1)))[b]? with
   | none => rw [hr] at e; exact no_some e
   | some c =>
     rw [hr] at e
     have hc : c = b := by
       have := List.getElem?_eq_some_iff.mp hr
       obtain ⟨h1, h2⟩ := this
       simpa using h2.symm
     subst hc
     simp only [Option.map_some, if_neg hab, Option.some.injEq] at e
     cases hg : G.get? c with
     | none => rw [hg] at e; subst e; simp [freedObj, Obj.isFreed] at f
     | some y => rw [hg] at e; simpa using e
 · intro e
   refine ⟨?_, (get_some.mp e).2⟩
   unfold plus
   have hlt : b < max G.objs.size (a + 1) := Nat.lt_of_lt_of_le (Heap.lt_size e) (Nat.le_max_left _ _)
   simp only [List.getElem?_toArray, List.getElem?_map, List.getElem?_range hlt, Option.map_some, if_neg hab]
   rw [e]; rfl
theorem plus_size {G : Heap} {a : Addr} {o : Obj} : (plus G a o).objs.size = max G.objs.size (a + 1) := by
 unfold plus; simp
theorem sub_plus {G : Heap} {a : Addr} {o : Obj} (hn : G.get? a = none) : Sub G (plus G a o) := fun b x e => by
 have : b ≠ a := by rintro rfl; rw [hn] at e; exact no_some e
 rw [plus_other this]; exact e
theorem plus_sub {G h : Heap} {a : Addr} {o : Obj} (s : Sub G h) (e : h.get? a = some o) (hf : o.isFreed = false) : Sub (plus G a o) h := fun b x q => by
 by_cases hb : b = a
 · subst hb
   rw [plus_self hf] at q
   (refine inj1 q ?_; clear q; rintro rfl); exact e
 · rw [plus_other hb] at q; exact s _ _ q
theorem not_freed {h : Heap} {a : Addr} {o : Obj} (e : h.get? a = some o) : o.isFreed = false := (get_some.mp e).2
section keys
open Classical
noncomputable def KT := { d : PyData // (isTupD d && tsD 6 d) = true }
mutual
noncomputable def hashT (w : World) : PyData -> Int
 | .str x => hashStr w x
 | .tuple xs => reduceHash (Builtin.Tuple.tupleHashOf (hashTs w xs))
 | _ => 0
noncomputable def hashTs (w : World) : List PyData -> List Int
 | [] => []
 | x :: xs => hashT w x :: hashTs w xs
end
mutual
noncomputable def drawsT : PyData -> Nat
 | .str _ => 1
 | .tuple xs => drawsTs xs + 1
 | _ => 0
noncomputable def drawsTs : List PyData -> Nat
 | [] => 0
 | x :: xs => drawsT x + drawsTs xs
end
theorem of_strB {x : PyData} (h : strB x = true) : ∃ s, x = .str s /\ PyData.strOk s = true := by
 unfold strB at h
 cases hs : strOf x with
 | none => rw [hs] at h; exact no_ft h
 | some s => rw [hs] at h; exact ⟨s, of_strD hs, h⟩
theorem ts_ind {C : Nat -> PyData -> Prop} (str : ∀ n s, PyData.strOk s = true -> C n (.str s)) (tup : ∀ n xs, (∀ x ∈ xs, tsD n x = true) -> (∀ x ∈ xs, C n x) -> C (n + 1) (.tuple xs)) (n : Nat) : ∀ x, tsD n x = true -> C n x := by
 induction n with
 | zero =>
   intro x h
   obtain ⟨s, rfl, hs⟩ := of_strB h
   exact str 0 s hs
 | succ n ih =>
   intro x h
   have h : (match tupOf x with | some xs => xs.all (tsD n) | none => strB x) = true := h
   cases ht : tupOf x with
   | none =>
     rw [ht] at h
     obtain ⟨s, rfl, hs⟩ := of_strB h
     exact str _ s hs
   | some xs =>
     rw [ht] at h
     obtain rfl := of_tupD ht
     exact tup n xs (List.all_eq_true.mp h) fun x hx => ih x (List.all_eq_true.mp h x hx)
theorem tsD_cl : ∀ (n : Nat) (x : PyData), tsD n x = true -> L.cl x = true := ts_ind (C := fun _ x => L.cl x = true) (fun _ _ h => h) (fun _ _ _ ih => L.clAll_of ih)
theorem tsD_can (n : Nat) (x : PyData) (h : tsD n x = true) : x.canLay0 = true := L.cl_lay x (tsD_cl n x h)
theorem tsD_depth : ∀ (n : Nat) (x : PyData), tsD n x = true -> x.depth <= n := ts_ind (C := fun n x => x.depth <= n) (fun _ _ _ => Nat.zero_le _) (fun _ _ _ ih => Nat.succ_le_succ (L.depthAll_of ih))
theorem hashTs_snoc {w : World} {x : PyData} (l : List PyData) : hashTs w (l ++ [x]) = hashTs w l ++ [hashT w x] := by
 induction l with
 | nil => rfl
 | cons y l ih => exact congrArg (hashT w y :: ·) ih
theorem drawsTs_snoc {x : PyData} (l : List PyData) : drawsTs (l ++ [x]) = drawsTs l + drawsT x := by
 induction l with
 | nil => exact Nat.add_comm _ _
 | cons y l ih => exact (congrArg (drawsT y + ·) ih).trans (Nat.add_assoc ..).symm
section
variable {prog : Program} {w : World} {E : Value -> Shared -> Prop}
theorem pyHash_tuple_step {A : Around} {s : Shared} {a : Addr} {o : Obj} {items : Array Value} {n : Nat} {xs : List PyData} {Q : Int -> Shared -> Prop} (hu : A.units < cLine)
   (ho : s.heap.get? a = some o) (hc : o.cls = .type "tuple") (hd : o.data = .seq items n) (hl : items.toList.length = xs.length)
   (hit : ∀ (i : Nat) (v : Value) (x : PyData), items.toList[i]? = some v -> xs[i]? = some x -> ∀ (E : Value -> Shared -> Prop) (tk : Nat) (Q : Int -> Shared -> Prop), Q (hashT w x) { s with toks := tk + drawsT x } -> wpAny (model prog w) A.in1 (pyHash v) Q E { s with toks := tk })
   (h : Q (hashT w (.tuple xs)) { s with toks := s.toks + drawsT (.tuple xs) }) :
   wpAny (model prog w) A (pyHash (.ref a)) Q E s := by
 have hT : s.TypeIs (.ref a) "tuple" := ⟨o, ho, hc⟩
 unfold pyHash
 first | unfold pyHashByItsType | skip
 first | refine wpAny_bind (wpAny_cRoomFor_or (.inr hu) ?_) | skip
 refine wpAny_bind (wpAny_specialOf hT F.slot_tuple_hash.lookup ?_)
 show wpAny _ _ (if (some (Value.builtin "tuple.__hash__") == some Value.none) = true then _ else _) Q E s
 rw [if_neg (by rw [beq_builtin_none]; exact Bool.false_ne_true)]
 refine wpAny_bind (wpAny_specialOf hT F.slot_tuple_hash.lookup ?_)
 show wpAny _ _ (callSpecialIfBoundUnlessNone? (.ref a) "__hash__" _ >>= _) Q E s
 refine wpAny_bind (wpAny_callSpecialIfBoundUnlessNone?_slot hT F.slot_tuple_hash (wpAny_call_entry F.slot_tuple_hash hT F.entry_tuple_hash ?_ (F.args_tuple_hash_1 _)))
 show wpAny _ _ (Builtin.Tuple.tupleItemsOf (.ref a) >>= _) _ _ s
 refine wpAny_bind (wpAny_tupleItemsOf ho hd ?_)
 refine wpAny_bind ?_
 rw [<- Array.forIn_toList]
 refine wpAny_forIn_list _
   (fun rest (b : Array Int) s' => ∃ (dn : List PyData) (lf : List PyData), xs = dn ++ lf /\ rest = items.toList.drop dn.length /\ rest.length = lf.length /\ b.toList = hashTs w dn /\ s' = { s with toks := s.toks + drawsTs dn })
   _ ?_ ?_ _ _ ⟨[], xs, rfl, by simp, hl, rfl, by simp [drawsTs]⟩
 · rintro v rest b s' ⟨dn, lf, rfl, hr, hlen, hb, rfl⟩
   cases lf with
   | nil => simp at hlen
   | cons x lf =>
     have e1 : items.toList[dn.length]? = some v := by
       have : (items.toList.drop dn.length)[0]? = some v := by rw [<- hr]; rfl
       simpa using this
     refine wpAny_bind (hit dn.length v x e1 (by simp) _ _ _ ?_)
     have e2 := hashTs_snoc (w := w) (x := x) dn
     have e3 := drawsTs_snoc (x := x) dn
     have e4 : rest = items.toList.drop (dn ++ [x]).length := by
       have : rest = (items.toList.drop dn.length).drop 1 := by rw [<- hr]; rfl
       rw [this, List.drop_drop]; simp
     have fin : ∃ (dn' : List PyData) (lf' : List PyData), dn ++ x :: lf = dn' ++ lf' /\ rest = items.toList.drop dn'.length /\ rest.length = lf'.length /\ (b.push (hashT w x)).toList = hashTs w dn' /\
         ({ s with toks := s.toks + drawsTs dn + drawsT x } : Shared) = { s with toks := s.toks + drawsTs dn' } :=
       ⟨dn ++ [x], lf, by simp, e4, by simpa using hlen, by rw [e2]; simp [hb], by rw [e3, Nat.add_assoc]⟩
     first
       | exact wpAny_pure fin
       | exact wpAny_bind (wpAny_pure (wpAny_pure fin))
 · rintro b s' ⟨dn, lf, rfl, hr, hlen, hb, rfl⟩
   have : lf = [] := by cases lf with | nil => rfl | cons _ _ => simp at hlen
   subst this
   rw [List.append_nil] at h
   show wpAny _ _ (retInt (Builtin.Tuple.tupleHashOf b.toList)) _ _ _
   rw [hb]
   refine wpAny_ret_mkInt ?_
   show wpAny _ _ (if (decide (-(2 : Int) ^ 63 <= Builtin.Tuple.tupleHashOf (hashTs w dn)) && decide (Builtin.Tuple.tupleHashOf (hashTs w dn) < 2 ^ 63)) = true then _ else _) Q E _
   have h : Q (reduceHash (Builtin.Tuple.tupleHashOf (hashTs w dn))) { s with toks := s.toks + (drawsTs dn + 1) } := h
   unfold reduceHash at h
   by_cases hr : (decide (-(2 : Int) ^ 63 <= Builtin.Tuple.tupleHashOf (hashTs w dn)) && decide (Builtin.Tuple.tupleHashOf (hashTs w dn) < 2 ^ 63)) = true
   · rw [if_pos hr]
     rw [if_pos hr] at h
     exact wpAny_pure (by simpa [Nat.add_assoc] using h)
   · rw [if_neg hr]
     rw [if_neg hr] at h
     exact wpAny_bind (wpAny_rule (wpAny_pure (by simpa [Nat.add_assoc] using h)))
theorem pyHash_ts : ∀ (n : Nat) (x : PyData), tsD n x = true -> ∀ (A : Around) (s : Shared) (v : Value) (as : List Addr) (Q : Int -> Shared -> Prop) (E : Value -> Shared -> Prop),
   A.units + n < cLine -> Reads s.heap v x as -> Q (hashT w x) { s with toks := s.toks + drawsT x } -> wpAny (model prog w) A (pyHash v) Q E s :=
 ts_ind (C := fun n x => ∀ (A : Around) (s : Shared) (v : Value) (as : List Addr) (Q : Int -> Shared -> Prop) (E : Value -> Shared -> Prop),
     A.units + n < cLine -> Reads s.heap v x as -> Q (hashT w x) { s with toks := s.toks + drawsT x } -> wpAny (model prog w) A (pyHash v) Q E s)
   (fun n y _ A s v as Q E hu r h => of_str r fun t e => e ▸ wpAny_pyHash_str h)
   (fun n xs _ ih A s v as Q E hu r h => of_tup r fun _ _ _ _ e h1 h2 h3 h4 => e ▸ pyHash_tuple_step (Nat.lt_of_le_of_lt (Nat.le_add_right _ _) hu) h1 h2 h3 (SeqAt.ReadsAll.length _ _ _ h4) (fun i v x e1 e2 E tk Q hq =>
     (readsAll_at h4 e1 e2).elim fun bs rv => ih x (List.mem_of_getElem? e2) A.in1 { s with toks := tk } v bs Q E (by show A.units + 1 + n < cLine; omega) rv hq) h)
theorem reads_mem {h : Heap} {xs : List PyData} {vs : List Value} {as : List Addr} (r : ReadsAll h vs xs as) : ∀ v ∈ vs, ∃ x bs, x ∈ xs /\ Reads h v x bs :=
 ra_ind (C := fun vs xs => ∀ v ∈ vs, ∃ x bs, x ∈ xs /\ Reads h v x bs) (fun v hv => nomatch hv) (fun v vs x xs a b r1 _ ih u hu => by
   rcases List.mem_cons.mp hu with rfl | hu
   · exact ⟨_, _, List.mem_cons_self .., r1⟩
   · obtain ⟨y, bs, hy, q⟩ := ih u hu
     exact ⟨y, bs, List.mem_cons_of_mem _ hy, q⟩) r
theorem quiet_ts : ∀ (n : Nat) (x : PyData), tsD n x = true -> ∀ (m : Nat), n <= m -> ∀ (A : Around) (s : Shared) (v : Value) (as : List Addr) (Q : Bool -> Shared -> Prop) (E : Value -> Shared -> Prop),
   Reads s.heap v x as -> Q true s -> wpAny (model prog w) A (eqIsQuiet m v) Q E s := by
 refine ts_ind (C := fun n x => ∀ (m : Nat), n <= m -> ∀ (A : Around) (s : Shared) (v : Value) (as : List Addr) (Q : Bool -> Shared -> Prop) (E : Value -> Shared -> Prop), Reads s.heap v x as -> Q true s -> wpAny (model prog w) A (eqIsQuiet m v) Q E s)
   (fun n y _ m _ A s v as Q E r h => of_str r fun t e => by rw [e, eqIsQuiet_byValue _ rfl]; exact wpAny_pure h) fun n xs _ ih m hm A s v as Q E r h => of_tup r fun a o vs k e h1 h2 h3 h4 => ?_
 subst e
 cases m with
 | zero => exact absurd hm (Nat.not_succ_le_zero _)
 | succ m =>
 have hm := Nat.le_of_succ_le_succ hm
 have hT : s.TypeIs (.ref a) "tuple" := ⟨o, h1, h2⟩
 unfold eqIsQuiet
 refine wpAny_bind (wpAny_specialOf hT F.slot_tuple_eq.lookup ?_)
 show wpAny _ _ (isInstance (.ref a) (.type "tuple") >>= _) _ _ s
 refine wpAny_bind (wpAny_isInstance hT isSubtype_tuple_tuple ?_)
 simp only [Bool.not_true, Bool.false_eq_true, if_false]
 refine wpAny_bind (wpAny_seqItems h1 h3 ?_)
 refine wpAny_bind ?_
 show wpAny _ _ (forIn vs _ _) _ _ s
 rw [<- Array.forIn_toList]
 refine wpAny_forIn_list _ (fun rest r s' => r.1 = none /\ s' = s /\ ∀ v ∈ rest, ∃ x bs, x ∈ xs /\ Reads s.heap v x bs) _ ?_ ?_ _ _ ⟨rfl, rfl, reads_mem h4⟩
 · rintro v rest r s' ⟨hr, rfl, hall⟩
   obtain ⟨x, bs, hx, rx⟩ := hall v List.mem_cons_self
   refine wpAny_bind (ih x hx m hm _ _ _ _ _ _ rx ?_)
   simp only [Bool.not_true, Bool.false_eq_true, if_false]
   exact wpAny_pure ⟨rfl, rfl, fun u hu' => hall u (List.mem_cons_of_mem _ hu')⟩
 · rintro ⟨r1, r2⟩ s' ⟨hr, rfl, _⟩
   obtain rfl : r1 = none := hr
   exact wpAny_pure h
theorem eqv_ts (n m : Nat) (x y : PyData) (h1 : tsD n x = true) (h2 : tsD m y = true) : PyData.eqv x y = decide (x = y) := L.eqv_b (tsD_cl n x h1) (tsD_cl m y h2) decide_eq_true_iff
theorem KT.ts (k : KT) : tsD 6 k.1 = true := (Bool.and_eq_true_iff.mp k.2).2
theorem KT.tup (k : KT) : ∃ xs, k.1 = .tuple xs := by
 have := (Bool.and_eq_true_iff.mp k.2).1
 exact is_tup this
noncomputable def KeyAt (h : Heap) (k : KT) (a : Addr) : Prop := ∃ as, Reads h (.ref a) k.1 as
theorem reads_samebut {h h' : Heap} {d : Addr} {o : Obj} {es : Array DictEntry} {ep : Nat} (ho : h.get? d = some o) (hd : o.data = .dict es ep) (hs : Heap.SameBut d h h') : ∀ (n : Nat) (x : PyData), tsD n x = true -> ∀ {v : Value} {as : List Addr}, Reads h v x as -> ∃ bs, Reads h' v x bs :=
 ts_ind (C := fun _ x => ∀ {v : Value} {as : List Addr}, Reads h v x as -> ∃ bs, Reads h' v x bs) (fun _ _ _ _ _ r => of_str r fun t e => ⟨[], e ▸ Reads.str _ t⟩) (fun n xs _ ih v as r => of_tup r fun a o' vs k e h1 h2 h3 h4 => by
   have hne : a ≠ d := fun z => by
     rw [z, ho] at h1; rw [<- Option.some.inj h1, hd] at h3; exact nomatch h3
   obtain ⟨bs, q⟩ := ra_ind (C := fun vs xs => (∀ x ∈ xs, ∀ {v : Value} {as : List Addr}, Reads h v x as -> ∃ bs, Reads h' v x bs) -> ∃ bs, ReadsAll h' vs xs bs) (fun _ => ⟨_, .nil⟩) (fun v vs x xs a b r1 _ ih2 hx =>
     (hx x (List.mem_cons_self ..) r1).elim fun _ q1 => (ih2 fun y hy => hx y (List.mem_cons_of_mem _ hy)).elim fun _ q2 => ⟨_, .cons q1 q2⟩) h4 ih
   exact ⟨bs, e ▸ Reads.tuple ((hs.2 a hne).trans h1) h2 h3 q⟩)
noncomputable def tupK (prog : Program) (w : World) : HeapKind prog w KT where
 is := KeyAt
 hash := fun k => hashT w k.1
 draws := fun k => drawsT k.1
 room := fun A => A.units + 20 < cLine
 inj := fun {h a x y} hx hy => by
   obtain ⟨as, rx⟩ := hx
   obtain ⟨bs, ry⟩ := hy
   exact Subtype.ext (PySem.Reads.unique rx _ _ ry).1
 keeps := fun {h h' k a d o es ep} hk ho hd hs => by
   obtain ⟨as, r⟩ := hk
   exact reads_samebut ho hd hs 6 k.1 k.ts r
 pyHash := fun {A E s k a Q} hu hk h => by
   obtain ⟨as, r⟩ := hk
   exact pyHash_ts 6 k.1 k.ts A s _ as Q E (by omega) r h
 eqBool := fun {A E s x y a b Q} hu hx hy h => by
   obtain ⟨as, rx⟩ := hx
   obtain ⟨bs, ry⟩ := hy
   have hm : min x.1.depth y.1.depth <= 6 := Nat.le_trans (Nat.min_le_left _ _) (tsD_depth 6 _ x.ts)
   refine SeqAt.eqBoolOverData prog w A E s _ _ x.1 y.1 as bs Q rx ry (tsD_can 6 _ x.ts) (tsD_can 6 _ y.ts) (by omega) ?_
   rw [eqv_ts 6 6 _ _ x.ts y.ts]
   have e : decide (x.1 = y.1) = decide (x = y) := by
     by_cases q : x = y
     · simp [q]
     · have : ¬ x.1 = y.1 := fun z => q (Subtype.ext z)
       simp [q, this]
   rw [e]; exact h
 quiet := fun {A E s k a Q} hk h => by
   obtain ⟨as, r⟩ := hk
   exact quiet_ts 6 k.1 k.ts 8 (by omega) A s _ as Q E r h
theorem encK (a b : KT) : Spec.same a.1 b.1 = decide (a = b) := by
 by_cases h : a = b
 · subst h; simp [Spec.same_self]
 · have : ¬ Spec.same a.1 b.1 = true := fun e => h (Subtype.ext (PyProof.Rows.eq_of_same _ _ e))
   simp [h, this]
end
end keys
end Mine
end
section
namespace Mine
open PySem PySem.W PyProof.Rows
open scoped Classical
section
variable (prog : Program) (w : World)
noncomputable def SDict (o : Obj) (l : List (PyData × PyData)) : Prop := ∃ kvs, o.IsDictOf (PySem.strKind prog w) kvs /\ PyProof.V.FlatPairs PyData.str kvs l
noncomputable def TDict (G : Heap) (o : Obj) (l : List (PyData × PyData)) : Prop :=
 ∃ es ep xs, o.ExactDict /\ o.data = .dict es ep /\ es.toList = xs.map (entryOfKey (tupK prog w)) /\ (∀ x ∈ xs, KeyAt G x.1 x.2.1) /\ (xs.map (·.1)).Nodup /\ PyProof.V.FlatPairs (fun k : KT => k.1) (kvsOf xs) l
structure DictObj (G : Heap) (o : Obj) (l : List (PyData × PyData)) : Prop where
 s : strKeys l = true -> SDict prog w o l
 t : tupKeys l = true -> TDict prog w G o l
 ex : o.ExactDict
inductive RV (G : Heap) (θ : List Addr) : Value -> V -> Prop
 | d {v : Value} {x : PyData} {as : List Addr} : Reads G v x as -> RV G θ v (.d x)
 | con (v : Value) : RV G θ v (.con v)
 | obj {i : Nat} {a : Addr} : θ[i]? = some a -> RV G θ (.ref a) (.obj i)
 | dict {a : Addr} {o : Obj} {l : List (PyData × PyData)} : G.get? a = some o -> DictObj prog w G o l -> (a == sysModules) = false -> RV G θ (.ref a) (.dict l)
 | inst {x C dx : Addr} {j : Nat} : G.get? x = some (instObj C dx) -> θ[j]? = some dx -> RV G θ (.ref x) (.inst C j)
inductive RVs (G : Heap) (θ : List Addr) : List Value -> List V -> Prop
 | nil : RVs G θ [] []
 | cons {v : Value} {V : V} {vs : List Value} {Vs : List Mine.V} : RV prog w G θ v V -> RVs G θ vs Vs -> RVs G θ (v :: vs) (V :: Vs)
noncomputable def RVP (G : Heap) (θ : List Addr) (v : Value) (X : V) : Prop := match X with
 | .d x => ∃ as, Reads G v x as
 | .con x => v = x
 | .obj i => ∃ a, v = .ref a /\ θ[i]? = some a
 | .dict l => ∃ a o, v = .ref a /\ G.get? a = some o /\ DictObj prog w G o l /\ (a == sysModules) = false
 | .inst K j => ∃ x dx, v = .ref x /\ G.get? x = some (instObj K dx) /\ θ[j]? = some dx
noncomputable def RVsP (G : Heap) (θ : List Addr) (us : List Value) (Xs : List V) : Prop := match Xs with
 | [] => us = []
 | X :: Xs => ∃ v vs, us = v :: vs /\ RV prog w G θ v X /\ RVs prog w G θ vs Xs
section
variable {prog w} {C : Prop} {G : Heap} {θ : List Addr} {v : Value} {us : List Value} {V : V} {Vs : List Mine.V}
theorem rv_inv (r : RV prog w G θ v V) : RVP prog w G θ v V :=
 RV.casesOn (motive := fun v V _ => RVP prog w G θ v V) r (fun h => ⟨_, h⟩) (fun _ => rfl) (fun h => ⟨_, rfl, h⟩) (fun h1 h2 h3 => ⟨_, _, rfl, h1, h2, h3⟩) (fun h1 h2 => ⟨_, _, rfl, h1, h2⟩)
theorem rvs_inv (r : RVs prog w G θ us Vs) : RVsP prog w G θ us Vs :=
 RVs.casesOn (motive := fun us Vs _ => RVsP prog w G θ us Vs) r rfl (fun h1 h2 => ⟨_, _, rfl, h1, h2⟩)
theorem of_obj {i : Nat} (r : RV prog w G θ v (.obj i)) (k : ∀ a, v = .ref a -> θ[i]? = some a -> C) : C := (show ∃ a, v = .ref a /\ _ from rv_inv r).elim fun a q => k a q.1 q.2
theorem of_con {x : Value} (r : RV prog w G θ v (.con x)) (k : v = x -> C) : C := k (rv_inv r)
theorem of_inst {K : Addr} {j : Nat} (r : RV prog w G θ v (.inst K j)) (k : ∀ x dx, v = .ref x -> G.get? x = some (instObj K dx) -> θ[j]? = some dx -> C) : C := (show ∃ x dx, v = .ref x /\ _ from rv_inv r).elim fun x q => q.elim fun dx q => k x dx q.1 q.2.1 q.2.2
theorem of_dic {l : List (PyData × PyData)} (r : RV prog w G θ v (.dict l)) (k : ∀ a o, v = .ref a -> G.get? a = some o -> DictObj prog w G o l -> (a == sysModules) = false -> C) : C := (show ∃ a o, v = .ref a /\ _ from rv_inv r).elim fun a q => q.elim fun o q => k a o q.1 q.2.1 q.2.2.1 q.2.2.2
theorem RV.data {x : PyData} (r : RV prog w G θ v (.d x)) : ∃ as, Reads G v x as := rv_inv r
theorem rvs_nil (r : RVs prog w G θ us []) (k : us = [] -> C) : C := k (rvs_inv r)
theorem rvs_cons (r : RVs prog w G θ us (V :: Vs)) (k : ∀ v vs, us = v :: vs -> RV prog w G θ v V -> RVs prog w G θ vs Vs -> C) : C := (show ∃ v vs, us = v :: vs /\ _ from rvs_inv r).elim fun v q => q.elim fun vs q => k v vs q.1 q.2.1 q.2.2
theorem rvs_one (r : RVs prog w G θ us [V]) (k : ∀ v, us = [v] -> RV prog w G θ v V -> C) : C := rvs_cons r fun v vs e h1 h2 => rvs_nil h2 fun e2 => k v (e.trans (e2 ▸ rfl)) h1
theorem rvs_two {V2 : Mine.V} (r : RVs prog w G θ us [V, V2]) (k : ∀ v v2, us = [v, v2] -> RV prog w G θ v V -> RV prog w G θ v2 V2 -> C) : C := rvs_cons r fun v vs e h1 h2 => rvs_one h2 fun v2 e2 h3 => k v v2 (e.trans (e2 ▸ rfl)) h1 h3
end
inductive AttrsAre (G : Heap) (θ : List Addr) : List DictEntry -> List (Str × V) -> Prop
 | nil : AttrsAre G θ [] []
 | cons {e : DictEntry} {n : Str} {t : Tok} {V : V} {es : List DictEntry} {l : List (Str × Mine.V)} : e.key = .str n t -> RV prog w G θ e.val V -> AttrsAre G θ es l -> AttrsAre G θ (e :: es) ((n, V) :: l)
noncomputable def RepO (G : Heap) (θ : List Addr) (h : Heap) (a : Addr) : MO -> Prop
 | .list l => G.get? a = none /\ ∃ o vs n as, h.get? a = some o /\ o.cls = .type "list" /\ o.data = .seq vs n /\ ReadsAll G vs.toList l as /\ o.dict = none /\ o.slots = #[]
 | .dict l => G.get? a = none /\ ∃ o, h.get? a = some o /\ DictObj prog w G o l /\ (a == sysModules) = false
 | .attrs l => G.get? a = none /\ ∃ es n, h.get? a = some (dictOf es n) /\ AttrsAre prog w G θ es l
 | .dead => True
noncomputable def Plain (o : Obj) : Prop := o.cls = .type "list" -> (∃ vs n, o.data = .seq vs n) -> o.dict = none /\ o.slots = #[]
structure Inv (base G : Heap) (θ : List Addr) (s : Shared) (μ : Sto) : Prop where
 bs : Sub base G
 sub : Sub G s.heap
 len : θ.length = μ.length
 nd : θ.Nodup
 live : ∀ a ∈ θ, ∃ o, s.heap.get? a = some o
 plain : ∀ b o, G.get? b = some o -> Plain o
 rep : ∀ (i : Nat) (a : Addr) (mo : MO), θ[i]? = some a -> μ[i]? = some mo -> RepO prog w G θ s.heap a mo
structure EnvRep (G : Heap) (θ : List Addr) (h : Heap) (env : Env) (fm : Fm) : Prop where
 kind : env.scope.kind = .function
 glob : env.globals = mainGlobals
 blt : env.builtins = builtinsNs
 kLoc : ∀ x, fm.sc.names.lookup x = some .local -> env.kindOf x = some .local
 kCel : ∀ x, (fm.sc.names.lookup x = some .cell \/ fm.sc.names.lookup x = some .free) -> env.kindOf x = some .cell \/ env.kindOf x = some .free
 kGlo : ∀ x, fm.sc.names.lookup x = some .globalImplicit -> env.kindOf x = some .globalImplicit
 noCD : ∀ x, env.kindOf x = some .free -> (x == ("__classdict__" : Str)) = false
 loc : ∃ m, h.Ns env.locals m /\ ∀ x V, fm.sc.names.lookup x = some .local -> fm.loc.lookup x = some V -> ∃ v, m x = some v /\ RV prog w G θ v V
 cel : ∀ x V, (fm.sc.names.lookup x = some .cell \/ fm.sc.names.lookup x = some .free) -> fm.loc.lookup x = some V ->
   ∃ c v, env.cells.lookup x = some c /\ h.IsCell c (some v) /\ RV prog w G θ v V
 ownL : env.locals ∉ θ /\ G.get? env.locals = none
 ownC : ∀ x c, (x, c) ∈ env.cells -> (c ∉ θ /\ G.get? c = none) /\ ∃ o, h.get? c = some o
end
structure Ext (W : List Addr) (G : Heap) (θ : List Addr) (s : Shared) (G' : Heap) (θ' : List Addr) (s' : Shared) : Prop where
 g : Sub G G'
 th : θ <+: θ'
 same : ∃ h tk, s' = { s with heap := h, toks := tk }
 keep : ∀ b, b ∉ θ -> b ∉ W -> ∀ o, s.heap.get? b = some o -> s'.heap.get? b = some o
 live : ∀ b o, s.heap.get? b = some o -> ∃ o', s'.heap.get? b = some o'
 newG : ∀ b ob o, s.heap.get? b = some ob -> b ∉ θ -> G'.get? b = some o -> G.get? b = some o
 newT : ∀ b ∈ θ', ∀ ob, s.heap.get? b = some ob -> b ∈ θ
theorem Inv.lt {prog : Program} {w : World} {base G : Heap} {θ : List Addr} {s : Shared} {μ : Sto} (I : Inv prog w base G θ s μ) (a : Addr) (ha : a ∈ θ) : a < s.heap.objs.size := let ⟨_, e⟩ := I.live a ha; Heap.lt_size e
theorem Ext.refl (W : List Addr) (G : Heap) (θ : List Addr) (s : Shared) : Ext W G θ s G θ s :=
 ⟨Sub.refl _, List.prefix_refl _, ⟨_, _, rfl⟩, fun _ _ _ _ e => e, fun _ o e => ⟨o, e⟩, fun _ _ _ _ _ e => e, fun _ h _ _ => h⟩
theorem Ext.trans {W : List Addr} {G G' G'' : Heap} {θ θ' θ'' : List Addr} {s s' s'' : Shared} (x : Ext W G θ s G' θ' s') (y : Ext W G' θ' s' G'' θ'' s'') : Ext W G θ s G'' θ'' s'' where
 g := x.g.trans y.g
 th := x.th.trans y.th
 same := by
   obtain ⟨h, t, rfl⟩ := x.same
   obtain ⟨h', t', e⟩ := y.same
   exact ⟨h', t', e⟩
 keep := fun b hb hw o e => by
   exact y.keep b (fun q => hb (x.newT b q o e)) hw o (x.keep b hb hw o e)
 live := fun b o e => let ⟨o', e'⟩ := x.live b o e; y.live b o' e'
 newG := fun b ob o hl hb e => let ⟨o', e'⟩ := x.live b ob hl; x.newG b ob o hl hb (y.newG b o' o e' (fun q => hb (x.newT b q ob hl)) e)
 newT := fun b hb ob hl => let ⟨o', e'⟩ := x.live b ob hl; x.newT b (y.newT b hb o' e') ob hl
theorem Ext.weaken {W W' : List Addr} {G G' : Heap} {θ θ' : List Addr} {s s' : Shared} (x : Ext W G θ s G' θ' s') (h : ∀ b ∈ W, b ∈ W') : Ext W' G θ s G' θ' s' :=
 ⟨x.g, x.th, x.same, fun b hb hw => x.keep b hb fun q => hw (h b q), x.live, x.newG, x.newT⟩
theorem Ext.strengthen {W W' : List Addr} {G G' : Heap} {θ θ' : List Addr} {s s' : Shared} (x : Ext W G θ s G' θ' s') (h : ∀ b ∈ W, b ∈ W' \/ s.heap.objs.size <= b) : Ext W' G θ s G' θ' s' :=
 ⟨x.g, x.th, x.same, fun b hb hw o e => x.keep b hb (fun q => (h b q).elim hw fun l => absurd (Heap.lt_size e) (Nat.not_lt.mpr l)) o e, x.live, x.newG, x.newT⟩
section
variable {prog : Program} {w : World} {base G G' : Heap} {θ θ' : List Addr} {s s' : Shared} {μ : Sto} {W : List Addr}
theorem KeyAt.mono (k : Sub G G') {x : KT} {a : Addr} (h : KeyAt G x a) : KeyAt G' x a := h.elim fun as r => ⟨as, Reads.keeps k r⟩
theorem TDict.mono (k : Sub G G') {o : Obj} {l : List (PyData × PyData)} (h : TDict prog w G o l) : TDict prog w G' o l :=
 h.elim fun es h => h.elim fun ep h => h.elim fun xs h => ⟨es, ep, xs, h.1, h.2.1, h.2.2.1, fun x hx => (h.2.2.2.1 x hx).mono k, h.2.2.2.2⟩
theorem DictObj.mono (k : Sub G G') {o : Obj} {l : List (PyData × PyData)} (h : DictObj prog w G o l) : DictObj prog w G' o l := ⟨h.1, fun q => (h.2 q).mono k, h.3⟩
theorem DictObj.plain {o : Obj} {l : List (PyData × PyData)} (h : DictObj prog w G o l) : Plain o := fun _ _ => h.3.2
theorem prefix_get {θ θ' : List Addr} (p : θ <+: θ') {i : Nat} {a : Addr} (h : θ[i]? = some a) : θ'[i]? = some a := by
 obtain ⟨t, rfl⟩ := p
 rw [List.getElem?_append_left (List.getElem?_eq_some_iff.mp h).1]
 exact h
theorem RV.mono (k : Sub G G') (p : θ <+: θ') {v : Value} {x : V} (h : RV prog w G θ v x) : RV prog w G' θ' v x :=
 RV.casesOn (motive := fun v x _ => RV prog w G' θ' v x) h (fun r => .d (Reads.keeps k r)) (fun _ => .con _) (fun e => .obj (prefix_get p e)) (fun e d n => .dict (k _ _ e) (d.mono k) n) (fun e d => .inst (k _ _ e) (prefix_get p d))
theorem RVs.mono (k : Sub G G') (p : θ <+: θ') {vs : List Value} {Vs : List V} (h : RVs prog w G θ vs Vs) : RVs prog w G' θ' vs Vs := by
 induction h with
 | nil => exact .nil
 | cons r _ ih => exact .cons (r.mono k p) ih
theorem RVs.length {vs : List Value} {Vs : List V} (h : RVs prog w G θ vs Vs) : vs.length = Vs.length := by
 induction h with
 | nil => rfl
 | cons _ _ ih => simp [ih]
theorem AttrsAre.mono (k : Sub G G') (p : θ <+: θ') {es : List DictEntry} {l : List (Str × V)} (h : AttrsAre prog w G θ es l) : AttrsAre prog w G' θ' es l := by
 induction h with
 | nil => exact .nil
 | cons e r _ ih => exact .cons e (r.mono k p) ih
theorem Ext.rv (x : Ext W G θ s G' θ' s') {v : Value} {y : V} (h : RV prog w G θ v y) : RV prog w G' θ' v y := h.mono x.g x.th
theorem EnvRep.ext {env : Env} {fm : Fm} (R : EnvRep prog w G θ s.heap env fm) (x : Ext [] G θ s G' θ' s') : EnvRep prog w G' θ' s'.heap env fm where
 kind := R.kind
 glob := R.glob
 blt := R.blt
 kLoc := R.kLoc
 kCel := R.kCel
 kGlo := R.kGlo
 noCD := R.noCD
 loc := by
   obtain ⟨m, hn, hm⟩ := R.loc
   exact ⟨m, hn.at' fun o e => x.keep _ R.ownL.1 (by simp) o e, fun y V hl hv => let ⟨v, a, b⟩ := hm y V hl hv; ⟨v, a, x.rv b⟩⟩
 cel := fun y V hk hv => by
   obtain ⟨c, v, h1, ⟨o, ho, hd⟩, h3⟩ := R.cel y V hk hv
   exact ⟨c, v, h1, ⟨o, x.keep _ (R.ownC y c (mem_of_lookup h1)).1.1 (by simp) o ho, hd⟩, x.rv h3⟩
 ownL := by
   obtain ⟨m, ⟨o, _, _, ho, _⟩, _⟩ := R.loc
   refine ⟨fun q => R.ownL.1 (x.newT _ q _ ho), ?_⟩
   cases e : G'.get? env.locals with
   | none => rfl
   | some o' => have := x.newG _ _ _ ho R.ownL.1 e; rw [R.ownL.2] at this; exact no_some this
 ownC := fun y c hc => by
   obtain ⟨⟨h1, h2⟩, ob, h3⟩ := R.ownC y c hc
   refine ⟨⟨fun q => h1 (x.newT _ q _ h3), ?_⟩, x.live _ _ h3⟩
   cases e : G'.get? c with
   | none => rfl
   | some o' => have := x.newG _ _ _ h3 h1 e; rw [h2] at this; exact no_some this
theorem RepO.mono (k : Sub G G') (p : θ <+: θ') {h h' : Heap} {a : Addr} {mo : MO} (hk : ∀ o, h.get? a = some o -> h'.get? a = some o) (hn : G.get? a = none -> G'.get? a = none)
   (r : RepO prog w G θ h a mo) : RepO prog w G' θ' h' a mo := by
 cases mo with
 | list l => obtain ⟨g, o, vs, n, as, h1, h2, h3, h4, h5⟩ := r; exact ⟨hn g, o, vs, n, as, hk _ h1, h2, h3, ReadsAll.keeps k h4, h5⟩
 | dict l => obtain ⟨g, o, h1, h2, h3⟩ := r; exact ⟨hn g, o, hk _ h1, h2.mono k, h3⟩
 | attrs l => obtain ⟨g, es, n, h1, h2⟩ := r; exact ⟨hn g, es, n, hk _ h1, h2.mono k p⟩
 | dead => trivial
theorem Inv.grow (I : Inv prog w base G θ s μ) (hk : ∀ b o, s.heap.get? b = some o -> s'.heap.get? b = some o) : Inv prog w base G θ s' μ where
 bs := I.bs
 sub := fun b o e => hk _ _ (I.sub _ _ e)
 len := I.len
 nd := I.nd
 live := fun a ha => let ⟨o, e⟩ := I.live a ha; ⟨o, hk _ _ e⟩
 plain := I.plain
 rep := fun i a mo h1 h2 => (I.rep i a mo h1 h2).mono (Sub.refl _) (List.prefix_refl _) (fun o e => hk _ _ e) id
theorem Inv.toks (I : Inv prog w base G θ s μ) (t : Nat) : Inv prog w base G θ { s with toks := t } μ := I.grow (fun _ _ e => e)
theorem none_of_ge {h : Heap} {a : Addr} (l : h.objs.size <= a) : h.get? a = none := by
 cases e : h.get? a with
 | none => rfl
 | some o => exact absurd (Heap.lt_size e) (Nat.not_lt.mpr l)
theorem Inv.gnone (I : Inv prog w base G θ s μ) {a : Addr} (l : s.heap.objs.size <= a) : G.get? a = none := by
 cases e : G.get? a with
 | none => rfl
 | some o => exact absurd (Heap.lt_size (I.sub _ _ e)) (Nat.not_lt.mpr l)
theorem plus_plain (h : ∀ b o, G.get? b = some o -> Plain o) {a : Addr} {o : Obj} (hp : Plain o) (hf : o.isFreed = false) : ∀ b x, (plus G a o).get? b = some x -> Plain x := fun b x e => by
 by_cases hb : b = a
 · subst hb; rw [plus_self hf] at e; (refine inj1 e ?_; clear e; rintro rfl); exact hp
 · rw [plus_other hb] at e; exact h b x e
theorem Inv.know (I : Inv prog w base G θ s μ) {a : Addr} {o : Obj} (hp : Plain o) (ho : s.heap.get? a = some o) (ha : a ∉ θ) (hn : G.get? a = none) : Inv prog w base (plus G a o) θ s μ where
 bs := I.bs.trans (sub_plus hn)
 sub := plus_sub I.sub ho (not_freed ho)
 len := I.len
 nd := I.nd
 live := I.live
 plain := plus_plain I.plain hp (not_freed ho)
 rep := fun i b mo h1 h2 => (I.rep i b mo h1 h2).mono (sub_plus hn) (List.prefix_refl _) (fun _ e => e) fun g => by
   rw [plus_other (by rintro rfl; exact ha (List.mem_of_getElem? h1))]; exact g
theorem Inv.alloc (I : Inv prog w base G θ s μ) {o : Obj} (hp : Plain o) (hf : o.isFreed = false) : Inv prog w base (plus G s.heap.objs.size o) θ { s with heap := s.heap.push o } μ := by
 have I' : Inv prog w base G θ { s with heap := s.heap.push o } μ := I.grow (fun b x e => Heap.get?_push_of_some _ e)
 exact I'.know hp (Heap.get?_push_size _ hf) (fun q => Nat.lt_irrefl _ (I.lt _ q)) (I.gnone (Nat.le_refl _))
theorem Ext.grow {h : Heap} {t : Nat} (hk : ∀ b o, s.heap.get? b = some o -> h.get? b = some o) : Ext [] G θ s G θ { s with heap := h, toks := t } :=
 ⟨Sub.refl _, List.prefix_refl _, ⟨_, _, rfl⟩, fun b _ _ o e => hk b o e, fun b o e => ⟨o, hk b o e⟩, fun _ _ _ _ _ e => e, fun _ q _ _ => q⟩
theorem Ext.know {a : Addr} {o : Obj} (l : s.heap.objs.size <= a) (hn : G.get? a = none) {h : Heap} {t : Nat} (hk : ∀ b o, s.heap.get? b = some o -> h.get? b = some o) :
   Ext [] G θ s (plus G a o) θ { s with heap := h, toks := t } :=
 ⟨sub_plus hn, List.prefix_refl _, ⟨_, _, rfl⟩, fun b _ _ o e => hk b o e, fun b o e => ⟨o, hk b o e⟩, fun b ob x hb _ e => by
   rw [plus_other (Nat.ne_of_lt (Nat.lt_of_lt_of_le (Heap.lt_size hb) l))] at e; exact e, fun _ q _ _ => q⟩
theorem Ext.alloc (I : Inv prog w base G θ s μ) {o : Obj} : Ext [] G θ s (plus G s.heap.objs.size o) θ { s with heap := s.heap.push o } :=
 Ext.know (t := s.toks) (Nat.le_refl _) (I.gnone (Nat.le_refl _)) (fun b x e => Heap.get?_push_of_some _ e)
theorem Inv.allocM (I : Inv prog w base G θ s μ) {o : Obj} {mo : MO} (hf : o.isFreed = false) (hr : RepO prog w G (θ ++ [s.heap.objs.size]) (s.heap.push o) s.heap.objs.size mo) :
   Inv prog w base G (θ ++ [s.heap.objs.size]) { s with heap := s.heap.push o } (μ ++ [mo]) := by
 have hnm : s.heap.objs.size ∉ θ := fun q => Nat.lt_irrefl _ (I.lt _ q)
 refine ⟨I.bs, fun b x e => Heap.get?_push_of_some _ (I.sub _ _ e), by rw [List.length_append, List.length_append, I.len]; rfl, ?_, ?_, I.plain, ?_⟩
 · exact List.nodup_append.mpr ⟨I.nd, List.nodup_cons.mpr ⟨List.not_mem_nil, List.nodup_nil⟩, fun x hx y hy e => hnm ((e.trans (List.mem_singleton.mp hy) : x = _) ▸ hx)⟩
 · intro a ha
   rcases List.mem_append.mp ha with q | q
   · obtain ⟨x, e⟩ := I.live a q; exact ⟨x, Heap.get?_push_of_some _ e⟩
   · rw [List.mem_singleton.mp q]; exact ⟨o, Heap.get?_push_size _ hf⟩
 · intro i a m h1 h2
   by_cases hi : i < θ.length
   · rw [List.getElem?_append_left hi] at h1
     rw [List.getElem?_append_left (I.len ▸ hi)] at h2
     exact (I.rep i a m h1 h2).mono (Sub.refl _) (List.prefix_append _ _) (fun x e => Heap.get?_push_of_some _ e) id
   · rw [List.getElem?_append_right (Nat.le_of_not_lt hi)] at h1
     rw [List.getElem?_append_right (I.len ▸ Nat.le_of_not_lt hi), <- I.len] at h2
     have e0 : i - θ.length = 0 := Nat.lt_one_iff.mp (List.getElem?_eq_some_iff.mp h1).1
     rw [e0] at h1 h2
     obtain rfl := Option.some.inj h1
     obtain rfl := Option.some.inj h2
     exact hr
theorem Ext.allocM {o : Obj} : Ext [] G θ s G (θ ++ [s.heap.objs.size]) { s with heap := s.heap.push o } :=
 ⟨Sub.refl _, List.prefix_append _ _, ⟨_, s.toks, rfl⟩, fun b _ _ o e => Heap.get?_push_of_some _ e, fun b o e => ⟨o, Heap.get?_push_of_some _ e⟩, fun _ _ _ _ _ e => e, fun b q ob l => by
   rcases List.mem_append.mp q with q | q
   · exact q
   · rw [List.mem_singleton.mp q] at l; exact absurd (Heap.lt_size l) (Nat.lt_irrefl _)⟩
theorem nodup_idx {l : List Addr} {i j : Nat} {a : Addr} (n : l.Nodup) (h1 : l[i]? = some a) (h2 : l[j]? = some a) : i = j := (List.getElem?_inj (List.getElem?_eq_some_iff.mp h1).1 n).mp (h1.trans h2.symm)
theorem Inv.set (I : Inv prog w base G θ s μ) {i : Nat} {a : Addr} {mo : MO} {h' : Heap} (hi : θ[i]? = some a) (hg : G.get? a = none) (hs : Heap.SameBut a s.heap h') (hl : ∃ o, h'.get? a = some o) (hr : RepO prog w G θ h' a mo) :
   Inv prog w base G θ { s with heap := h' } (μ.set i mo) where
 bs := I.bs
 sub := fun b o e => (hs.2 b (by rintro rfl; rw [hg] at e; exact no_some e)).trans (I.sub _ _ e)
 len := by rw [List.length_set]; exact I.len
 nd := I.nd
 live := fun b hb => by
   by_cases hba : b = a
   · subst hba; exact hl
   · obtain ⟨o, e⟩ := I.live b hb; exact ⟨o, (hs.2 b hba).trans e⟩
 plain := I.plain
 rep := fun j b m h1 h2 => by
   by_cases hj : j = i
   · subst hj
     rw [hi] at h1; (refine inj1 h1 ?_; clear h1; rintro rfl)
     rw [List.getElem?_set_self (by rw [<- I.len]; exact (List.getElem?_eq_some_iff.mp hi).1)] at h2
     (refine inj1 h2 ?_; clear h2; rintro rfl); exact hr
   · rw [List.getElem?_set_ne (Ne.symm hj)] at h2
     have hba : b ≠ a := by
       rintro rfl
       exact hj (nodup_idx I.nd h1 hi)
     exact (I.rep j b m h1 h2).mono (Sub.refl _) (List.prefix_refl _) (fun o e => (hs.2 b hba).trans e) id
theorem Ext.set {a : Addr} {h' : Heap} {t : Nat} (ha : a ∈ θ) (hs : Heap.SameBut a s.heap h') (hl : ∃ o, h'.get? a = some o) : Ext [] G θ s G θ { s with heap := h', toks := t } :=
 ⟨Sub.refl _, List.prefix_refl _, ⟨_, _, rfl⟩, fun b hb _ o e => (hs.2 b (by rintro rfl; exact hb ha)).trans e, fun b o e => by
   by_cases hba : b = a
   · subst hba; exact hl
   · exact ⟨o, (hs.2 b hba).trans e⟩, fun _ _ _ _ _ e => e, fun _ q _ _ => q⟩
theorem Inv.freeze (I : Inv prog w base G θ s μ) {i : Nat} {a : Addr} {o : Obj} (hp : Plain o) (hi : θ[i]? = some a) (hg : G.get? a = none) (ho : s.heap.get? a = some o) :
   Inv prog w base (plus G a o) θ s (μ.set i .dead) where
 bs := I.bs.trans (sub_plus hg)
 sub := plus_sub I.sub ho (not_freed ho)
 len := by rw [List.length_set]; exact I.len
 nd := I.nd
 live := I.live
 plain := plus_plain I.plain hp (not_freed ho)
 rep := fun j b m h1 h2 => by
   by_cases hj : j = i
   · subst hj
     rw [hi] at h1; (refine inj1 h1 ?_; clear h1; rintro rfl)
     rw [List.getElem?_set_self (by rw [<- I.len]; exact (List.getElem?_eq_some_iff.mp hi).1)] at h2
     (refine inj1 h2 ?_; clear h2; rintro rfl); exact True.intro
   · rw [List.getElem?_set_ne (Ne.symm hj)] at h2
     have hba : b ≠ a := by
       rintro rfl
       exact hj (nodup_idx I.nd h1 hi)
     exact (I.rep j b m h1 h2).mono (sub_plus hg) (List.prefix_refl _) (fun o e => e) fun g => by rw [plus_other hba]; exact g
theorem Ext.freeze {a : Addr} {o : Obj} (ha : a ∈ θ) (hg : G.get? a = none) : Ext [] G θ s (plus G a o) θ s :=
 ⟨sub_plus hg, List.prefix_refl _, ⟨_, _, rfl⟩, fun b _ _ o e => e, fun b o e => ⟨o, e⟩, fun b _ x _ hb e => by
   rw [plus_other (by rintro rfl; exact hb ha)] at e; exact e, fun _ q _ _ => q⟩
end
end Mine
end
section
namespace Mine
open PySem PySem.W PyProof.Rows
noncomputable abbrev no : Value -> Shared -> Prop := fun _ _ => False
structure Room (A : Around) (n : Nat) : Prop where
 hand : A.handled = none
 depth : A.depth + n < recursionLimit
 units : A.units + 8 * n + 200 < cLine
theorem Room.less {A : Around} {n m : Nat} (h : Room A n) (hm : m <= n) : Room A m := ⟨h.hand, by have := h.depth; omega, by have := h.units; omega⟩
theorem Room.units200 {A : Around} {n : Nat} (h : Room A n) : A.units + 200 < cLine := Nat.lt_of_le_of_lt (Nat.add_le_add_right (Nat.le_add_right _ _) _) h.units
theorem Room.pred {A : Around} {n : Nat} (h : Room A (n + 1)) : Room A n := h.less (Nat.le_succ _)
theorem Room.in1 {A : Around} {n : Nat} (h : Room A (n + 1)) : Room A.in1 n := ⟨h.hand, by have := h.depth; show A.depth + n < _; omega, by have := h.units; show A.units + 1 + 8 * n + 200 < _; omega⟩
theorem Room.deeper {A : Around} {n : Nat} {env : Env} (h : Room A (n + 1)) : Room (A.deeper env) n := ⟨h.hand, by have := h.depth; show A.depth + 1 + n < _; omega, by have := h.units; show A.units + 3 + 8 * n + 200 < _; omega⟩
section
variable (P : Par) (prog : Program) (w : World) (base : Heap)
structure FnOk1 (fi : FnI) (o : Obj) (fd : FuncData) : Prop where
 data : o.data = .func fd
 code : base.CodeRec fd.code fd.qualname
 body : fd.body = .stmts fi.body
 bind : ∀ vals : List Value, vals.length = fi.params.length -> bindArgs fd ⟨vals, []⟩ = pure (fi.params.zip vals)
 clo : fd.closure = []
 sc : fd.scope = fi.sc
 gl : fd.globals = mainGlobals
 bl : fd.builtins = builtinsNs
 co : fi.sc.isCoroutine = false
 gen : fi.sc.isGenerator = false
 kd : fi.sc.kind = .function
 dist : distinct fi.params = true
 cd : (fi.sc.names.lookup ("__classdict__" : Str)).isNone = true
 nn : (fi.sc.names.map (·.1)).Nodup
 pk : ∀ x ∈ fi.params, fi.sc.names.lookup x = some .local \/ fi.sc.names.lookup x = some .cell
noncomputable def FnOk (fi : FnI) (o : Obj) : Prop := ∃ fd, FnOk1 base fi o fd
structure BaseOk : Prop where
 globs : ∃ mg mb, base.Ns mainGlobals mg /\ base.Ns builtinsNs mb /\ ∀ x V, P.glob x = some V -> ∃ v, (mg x = some v \/ (mg x = none /\ mb x = some v)) /\ RV prog w base [] v V
 nolimit : base.NoLimit
 mods : ∃ a o, base.get? a = some o /\ sysModules < a
 fns : ∀ a fi, P.fn a = some fi -> ∃ o, base.get? a = some o /\ FnOk base fi o
 keeps : ∀ a, ((P.fn a).isSome = true \/ (P.ctor a).isSome = true) -> ∀ h, Sub base h -> ∃ k, (k = Keeper.frame \/ k = Keeper.machine \/ k = Keeper.boundFrame) /\ Looks (model prog w) h (keeperOf (.ref a)) k
noncomputable def WF (env : Env) : List Addr := env.locals :: env.cells.map (·.2)
structure FrameRep (G : Heap) (θ : List Addr) (h : Heap) (env : Env) (fm : Fm) : Prop where
 rep : EnvRep prog w G θ h env fm
 sc : env.scope = fm.sc
 bound : ∀ x, fm.sc.names.lookup x = some .cell -> ∃ c, env.cells.lookup x = some c
 cells : ∀ x c, (x, c) ∈ env.cells -> ∃ v, h.IsCell c v
 apart : ∀ x y c, (x, c) ∈ env.cells -> (y, c) ∈ env.cells -> x = y
 cL : ∀ x c, (x, c) ∈ env.cells -> c ≠ env.locals
noncomputable def PostX (G : Heap) (θ : List Addr) (s : Shared) (μ' : Sto) (env : Env) (sc : Scope) (ρ' : Loc) (fl : Flw) (f : Flow) (s' : Shared) : Prop :=
 ∃ G' θ', Ext (WF env) G θ s G' θ' s' /\ Inv prog w base G' θ' s' μ' /\ FrameRep prog w G' θ' s'.heap env ⟨sc, ρ'⟩ /\
   match fl with
   | .next => f = .next
   | .ret V => ∃ v, f = .ret v /\ RV prog w G' θ' v V
noncomputable def SExs (r : Rec) (n : Nat) : Prop := ∀ (A : Around) (G : Heap) (θ : List Addr) (s : Shared) (μ : Sto) (env : Env) (sc : Scope) (ρ : Loc) (sts : List Stmt) (fl : Flw) (ρ' : Loc) (μ' : Sto),
 Room A n -> Inv prog w base G θ s μ -> FrameRep prog w G θ s.heap env ⟨sc, ρ⟩ -> r.exs sc sts ρ μ = some (fl, ρ', μ') ->
 wpAny (model prog w) A (execs sts env) (PostX prog w base G θ s μ' env sc ρ' fl) no s
noncomputable def Post (G : Heap) (θ : List Addr) (s : Shared) (μ' : Sto) (V : V) (v : Value) (s' : Shared) : Prop :=
 ∃ G' θ', Ext [] G θ s G' θ' s' /\ Inv prog w base G' θ' s' μ' /\ RV prog w G' θ' v V
noncomputable def PostB (G : Heap) (θ : List Addr) (s : Shared) (μ' : Sto) (B : Bool) (b : Bool) (s' : Shared) : Prop :=
 b = B /\ ∃ G' θ', Ext [] G θ s G' θ' s' /\ Inv prog w base G' θ' s' μ'
noncomputable def PostL (G : Heap) (θ : List Addr) (s : Shared) (μ' : Sto) (Vs : List V) (vs : List Value) (s' : Shared) : Prop :=
 ∃ G' θ', Ext [] G θ s G' θ' s' /\ Inv prog w base G' θ' s' μ' /\ RVs prog w G' θ' vs Vs
noncomputable def SEv (r : Rec) (n : Nat) : Prop := ∀ (A : Around) (G : Heap) (θ : List Addr) (s : Shared) (μ : Sto) (env : Env) (fm : Fm) (e : Expr) (V : V) (μ' : Sto),
 Room A n -> Inv prog w base G θ s μ -> EnvRep prog w G θ s.heap env fm -> r.ev fm e μ = some (V, μ') ->
 wpAny (model prog w) A (eval e env) (Post prog w base G θ s μ' V) no s
noncomputable def STr (r : Rec) (n : Nat) : Prop := ∀ (A : Around) (G : Heap) (θ : List Addr) (s : Shared) (μ : Sto) (env : Env) (fm : Fm) (e : Expr) (B : Bool) (μ' : Sto),
 Room A n -> Inv prog w base G θ s μ -> EnvRep prog w G θ s.heap env fm -> r.tr fm e μ = some (B, μ') ->
 wpAny (model prog w) A (isTrue e env (eval e env)) (PostB prog w base G θ s μ' B) no s
noncomputable def SCall (r : Rec) (n : Nat) : Prop := ∀ (A : Around) (G : Heap) (θ : List Addr) (s : Shared) (μ : Sto) (f : Value) (F : V) (vs : List Value) (Vs : List V) (V : V) (μ' : Sto),
 Room A n -> Inv prog w base G θ s μ -> RV prog w G θ f F -> RVs prog w G θ vs Vs -> r.call F Vs μ = some (V, μ') ->
 wpAny (model prog w) A (call f vs) (Post prog w base G θ s μ' V) no s
section
variable {prog w} {base}
theorem Post.el {C : Prop} {G : Heap} {θ : List Addr} {s s' : Shared} {μ : Sto} {X : V} {x : Value} (p : Post prog w base G θ s μ X x s') (k : ∀ G' θ', Ext [] G θ s G' θ' s' -> Inv prog w base G' θ' s' μ -> RV prog w G' θ' x X -> C) : C := by
 obtain ⟨G1, t1, e1, I1, r1⟩ := p; exact k _ _ e1 I1 r1
theorem PostL.el {C : Prop} {G : Heap} {θ : List Addr} {s s' : Shared} {μ : Sto} {X : List V} {x : List Value} (p : PostL prog w base G θ s μ X x s') (k : ∀ G' θ', Ext [] G θ s G' θ' s' -> Inv prog w base G' θ' s' μ -> RVs prog w G' θ' x X -> C) : C := by
 obtain ⟨G1, t1, e1, I1, r1⟩ := p; exact k _ _ e1 I1 r1
theorem PostB.el {C : Prop} {G : Heap} {θ : List Addr} {s s' : Shared} {μ : Sto} {B b : Bool} (p : PostB prog w base G θ s μ B b s') (k : b = B -> ∀ G' θ', Ext [] G θ s G' θ' s' -> Inv prog w base G' θ' s' μ -> C) : C := by
 obtain ⟨e, G1, t1, e1, I1⟩ := p; exact k e _ _ e1 I1
end
noncomputable def NoStar (r : Rec) : Prop := ∀ fm e p μ, r.ev fm (.Starred e p) μ = none
end
section
variable {P : Par} {prog : Program} {w : World} {base G : Heap} {θ : List Addr} {s : Shared} {μ μ' : Sto} {A : Around} {n : Nat} {r : Rec} {env : Env} {fm : Fm}
theorem BaseOk.big (B : BaseOk P prog w base) (I : Inv prog w base G θ s μ) : sysModules < s.heap.objs.size := B.mods.elim fun a q => q.elim fun o q => Nat.lt_trans q.2 (Heap.lt_size (I.sub _ _ (I.bs _ _ q.1)))
theorem no_any {α : Type} {M : Model} {t : Sem α} {Q : α -> Shared -> Prop} {E : Value -> Shared -> Prop} (h : wpAny M A t Q no s) : wpAny M A t Q E s := wpAny_mono h (fun _ _ x => x) fun _ _ x => x.elim
theorem Post.of {G' : Heap} {θ' : List Addr} {s' s'' : Shared} {V : V} {v : Value} (x : Ext [] G θ s G' θ' s') (p : Post prog w base G' θ' s' μ' V v s'') : Post prog w base G θ s μ' V v s'' :=
 p.el fun G2 t2 e2 i2 r2 => ⟨G2, t2, x.trans e2, i2, r2⟩
theorem PostB.of {G' : Heap} {θ' : List Addr} {s' s'' : Shared} {B b : Bool} (x : Ext [] G θ s G' θ' s') (p : PostB prog w base G' θ' s' μ' B b s'') : PostB prog w base G θ s μ' B b s'' :=
 p.el fun h G2 t2 e2 i2 => ⟨h, G2, t2, x.trans e2, i2⟩
theorem PostL.of {G' : Heap} {θ' : List Addr} {s' s'' : Shared} {V : List V} {v : List Value} (x : Ext [] G θ s G' θ' s') (p : PostL prog w base G' θ' s' μ' V v s'') : PostL prog w base G θ s μ' V v s'' :=
 p.el fun G2 t2 e2 i2 r2 => ⟨G2, t2, x.trans e2, i2, r2⟩
theorem Post.toks (I : Inv prog w base G θ s μ) {V : V} {v : Value} (t : Nat) (hv : RV prog w G θ v V) : Post prog w base G θ s μ V v { s with toks := t } :=
 ⟨G, θ, Ext.grow (h := s.heap) (fun _ _ e => e), I.toks t, hv⟩
theorem Post.here (I : Inv prog w base G θ s μ) {V : V} {v : Value} (hv : RV prog w G θ v V) : Post prog w base G θ s μ V v s :=
 ⟨G, θ, Ext.refl _ _ _ _, I, hv⟩
theorem PostB.toks (I : Inv prog w base G θ s μ) {B : Bool} (t : Nat) : PostB prog w base G θ s μ B B { s with toks := t } :=
 ⟨rfl, G, θ, Ext.grow (h := s.heap) (fun _ _ e => e), I.toks t⟩
theorem Flat.rv {v : Value} {x : PyData} (h : PyProof.V.Flat v x) : RV prog w G θ v (.d x) := .d (h G)
theorem s_const {c : Const} {k : Nat} {p : Pos} {V : V} (I : Inv prog w base G θ s μ) (h : constM c = some V) : wpAny (model prog w) A (eval (.Constant c k p) env) (Post prog w base G θ s μ V) no s := by
 cases c with
 | none => exact Option.some.inj h ▸ wpAny_pure (Post.here I (.d .none))
 | bool b => exact Option.some.inj h ▸ wpAny_pure (Post.here I (.d (.bool b)))
 | int i => exact Option.some.inj h ▸ wpAny_Constant_int (Post.toks I _ (.d (.int i _)))
 | str x => exact Option.some.inj h ▸ Calls.Constant_str (Post.toks I _ (.d (.str x _)))
 | _ => exact no_some h
theorem nil_prefix (θ : List Addr) : ([] : List Addr) <+: θ := ⟨θ, rfl⟩
theorem s_name {x : Str} {p : Pos} {V : V} (B : BaseOk P prog w base) (I : Inv prog w base G θ s μ) (R : EnvRep prog w G θ s.heap env fm) (h : nameM P fm x = some V) :
   wpAny (model prog w) A (eval (.Name x p) env) (Post prog w base G θ s μ V) no s := by
 refine if_no h ?_; clear h; intro hdb h
 have hdb : (x == ("__debug__" : Str)) = false := Bool.eq_false_iff.mpr hdb
 refine bind1 h ?_; clear h; intro k hl h
 have cellCase : (fm.sc.names.lookup x = some .cell \/ fm.sc.names.lookup x = some .free) -> fm.loc.lookup x = some V -> wpAny (model prog w) A (eval (.Name x p) env) (Post prog w base G θ s μ V) no s := by
   intro hk hv
   obtain ⟨c, v, h1, h2, h3⟩ := R.cel x V hk hv
   rcases R.kCel x hk with hl | hl
   · exact wpAny_Name (wpAny_loadName_cell R.kind hl h1 h2 (Post.here I h3)) hdb
   · exact wpAny_Name (wpAny_loadName_free R.kind hl h1 h2 (Post.here I h3) (R.noCD x hl)) hdb
 cases k with
 | «local» =>
   obtain ⟨m, hn, hm⟩ := R.loc
   obtain ⟨v, hv, hr⟩ := hm x V hl h
   exact wpAny_Name (wpAny_loadName_local R.kind (R.kLoc x hl) hn hv (Post.here I hr)) hdb
 | cell => exact cellCase (.inl hl) h
 | free => exact cellCase (.inr hl) h
 | globalImplicit =>
   obtain ⟨mg, mb, hg, hb, hall⟩ := B.globs
   obtain ⟨v, hv, hr⟩ := hall x V h
   have hr' : RV prog w G θ v V := hr.mono I.bs (nil_prefix θ)
   have hbs : Sub base s.heap := I.bs.trans I.sub
   refine Calls.Name_function_global R.kind (R.kGlo x hl) ?_ hdb
   rcases hv with hv | ⟨hv, hv'⟩
   · exact Calls.loadGlobal_global (by rw [R.glob]; exact hg.keeps hbs) hv (Post.here I hr')
   · exact Calls.loadGlobal_builtin (by rw [R.glob]; exact hg.keeps hbs) hv (by rw [R.blt]; exact hb.keeps hbs) hv' (Post.here I hr')
 | _ => exact no_some h
theorem starEach_plain {e : Expr} (he : ∀ x p, e ≠ .Starred x p) (rest : List Expr) : starEach (e :: rest) env = (false, eval e env) :: starEach rest env := by
 cases e <;> first | rfl | exact absurd rfl (he _ _)
theorem evs_plain (hst : NoStar r) {args : List Expr} : ∀ {μ : Sto} {Vs : List V} {μ' : Sto}, evsM (r.ev fm) args μ = some (Vs, μ') -> (∀ e ∈ args, ∀ x p, e ≠ .Starred x p) /\ Vs.length = args.length := by
 induction args with
 | nil => exact fun h => inj2 h fun e _ => ⟨(fun _ h => nomatch h), e ▸ rfl⟩
 | cons e rest ih =>
   exact fun h => bind2 h fun v μ1 h1 h => bind2 h fun vs μ2 h2 h => inj2 h fun ev _ => ⟨fun e' he => (List.mem_cons.mp he).elim (fun z x p q => no_some ((hst fm x p _).symm.trans ((z ▸ q : e = Expr.Starred x p) ▸ h1))) ((ih h2).1 e'), ev ▸ congrArg (· + 1) (ih h2).2⟩
theorem s_evs (hs : SEv prog w base r n) (hst : NoStar r) (hroom : Room A n) {pos : Pos} {args : List Expr} : ∀ {G : Heap} {θ : List Addr} {s : Shared} {μ : Sto} {Vs : List V} {μ' : Sto},
   Inv prog w base G θ s μ -> EnvRep prog w G θ s.heap env fm -> evsM (r.ev fm) args μ = some (Vs, μ') ->
   wpAny (model prog w) A (spliced (backTo pos (starEach args env))) (PostL prog w base G θ s μ' Vs) no s := by
 induction args with
 | nil => exact fun I R h => inj2 h fun e1 e2 => e1 ▸ e2 ▸ Calls.spliced_nil ⟨_, _, Ext.refl _ _ _ _, I, .nil⟩
 | cons e rest ih =>
   intro G θ s μ Vs μ' I R h
   rw [starEach_plain ((evs_plain hst h).1 e List.mem_cons_self)]
   show wpAny _ _ (spliced ((false, eval e env) :: backTo pos (starEach rest env))) _ _ _
   exact bind2 h fun v μ1 h1 h => bind2 h fun vs μ2 h2 h => inj2 h fun e1 e2 => Calls.spliced_cons (wpAny_mono (hs A G θ s μ env fm e v μ1 hroom I R h1) (fun v' s1 p1 => p1.el fun G1 t1 e1' i1 r1 =>
     wpAny_mono (ih i1 (R.ext e1') h2) (fun vs' s2 p2 => p2.el fun G2 t2 e2' i2 r2 => e1 ▸ e2 ▸ ⟨G2, t2, e1'.trans e2', i2, .cons (e2'.rv r1) r2⟩) fun _ _ x => x) fun _ _ x => x)
theorem evalArgs_any {f : Value} {args : List (Bool × Sem Value)} {Q : Args -> Shared -> Prop} {E : Value -> Shared -> Prop} {M : Model} (hp : args.any (·.1) = false)
   (h : wpAny M A (spliced args) (fun vs s' => Q ⟨vs, []⟩ s') E s) : wpAny M A (evalArgs f true args []) Q E s := by
 cases args with
 | nil =>
   unfold evalArgs
   show wpAny M A (spliced [] >>= _) Q E s
   refine wpAny_bind (wpAny_mono h (fun vs s' h' => ?_) fun _ _ x => x)
   exact wpAny_holding (wpAny_bind (wpAny_pure (wpAny_bind (wpAny_pure (wpAny_pure h')))))
 | cons a rest =>
   obtain ⟨b, t⟩ := a
   obtain rfl : b = false := by
     cases b with
     | false => rfl
     | true => exact no_ft hp.symm
   exact Calls.evalArgs_plain h
theorem backTo_any {pos : Pos} {args : List Expr} (h : ∀ e ∈ args, ∀ x p, e ≠ .Starred x p) : (backTo pos (starEach args env)).any (·.1) = false := by
 induction args with
 | nil => rfl
 | cons e rest ih =>
   rw [starEach_plain (h e List.mem_cons_self)]
   show (false || (backTo pos (starEach rest env)).any (·.1)) = false
   rw [ih fun e' he => h e' (List.mem_cons_of_mem _ he)]; rfl
theorem s_callWith (hs : SEv prog w base r n) (hst : NoStar r) (hroom : Room A n) {pos pos' : Pos} {f : Value} {first : List Value} {args : List Expr} {Vs : List V} {μ' : Sto} {Q : Value -> Shared -> Prop}
   (hk : ∀ h, Sub base h -> ∃ k, (k = Keeper.frame \/ k = Keeper.machine \/ k = Keeper.boundFrame) /\ Looks (model prog w) h (keeperOf f) k)
   (I : Inv prog w base G θ s μ) (R : EnvRep prog w G θ s.heap env fm) (h : evsM (r.ev fm) args μ = some (Vs, μ'))
   (hq : ∀ vs G' θ' s', Ext [] G θ s G' θ' s' -> Inv prog w base G' θ' s' μ' -> RVs prog w G' θ' vs Vs -> wpAny (model prog w) A (call f (first ++ vs)) Q no s') :
   wpAny (model prog w) A (callWith pos f first (backTo pos' (starEach args env)) []) Q no s := by
 have hp := (evs_plain hst h).1
 refine callWith_of (P := fun h => Sub base h) (by rw [backTo_any hp]; rfl) hk (evalArgs_any (backTo_any hp) (wpAny_mono (s_evs hs hst hroom I R h) (fun vs s' p => ?_) fun _ _ x => x))
 refine p.el fun G' θ' e i rv => ?_
 exact ⟨i.bs.trans i.sub, hq vs G' θ' s' e i rv⟩
theorem keeps_plain {f : Value} (hf : ∀ a, f ≠ .ref a) (h : Heap) : ∃ k, (k = Keeper.frame \/ k = Keeper.machine \/ k = Keeper.boundFrame) /\ Looks (model prog w) h (keeperOf f) k := by
 refine ⟨.machine, .inr (.inl rfl), ?_⟩
 have : keeperOf f = pure .machine := by
   unfold keeperOf
   cases f <;> first | rfl | exact absurd rfl (hf _)
 rw [this]
 exact Looks.of_pure rfl
end
end Mine
end
section
namespace Mine
open PySem PySem.W PyProof.Rows
section
variable {P : Par} {prog : Program} {w : World} {base G : Heap} {θ : List Addr} {s : Shared} {μ μ' : Sto} {A : Around} {n : Nat} {r : Rec} {env : Env} {fm : Fm}
theorem sizeLine_is : sizeLine = 16777216 := by decide
theorem cLine_val : cLine = 9900 := rfl
theorem Post.made (I : Inv prog w base G θ s μ) {o : Obj} (hp : Plain o) (hf : o.isFreed = false) {x : PyData} {as : List Addr} (t : Nat) (hr : Reads (plus G s.heap.objs.size o) (.ref s.heap.objs.size) x as) :
   Post prog w base G θ s μ (.d x) (.ref s.heap.objs.size) { s with heap := s.heap.push o, toks := t } :=
 ⟨plus G s.heap.objs.size o, θ, Ext.know (Nat.le_refl _) (I.gnone (Nat.le_refl _)) (fun b x e => Heap.get?_push_of_some _ e),
   (I.alloc hp hf).toks t, .d hr⟩
theorem Post.tuple (I : Inv prog w base G θ s μ) {vs : Array Value} {k : Nat} {xs : List PyData} {as : List Addr} (t : Nat) (h : ReadsAll G vs.toList xs as) :
   Post prog w base G θ s μ (.d (.tuple xs)) (.ref s.heap.objs.size) { s with heap := s.heap.push { cls := .type "tuple", data := .seq vs k }, toks := t } :=
 Post.made I (fun _ _ => ⟨rfl, rfl⟩) rfl t (.tuple (plus_self rfl) rfl rfl (ReadsAll.keeps (sub_plus (I.gnone (Nat.le_refl _))) h))
theorem Post.list (I : Inv prog w base G θ s μ) {vs : Array Value} {k : Nat} {xs : List PyData} {as : List Addr} (t : Nat) (h : ReadsAll G vs.toList xs as) :
   Post prog w base G θ s μ (.d (.list xs)) (.ref s.heap.objs.size) { s with heap := s.heap.push { cls := .type "list", data := .seq vs k }, toks := t } :=
 Post.made I (fun _ _ => ⟨rfl, rfl⟩) rfl t (.list (plus_self rfl) rfl rfl (ReadsAll.keeps (sub_plus (I.gnone (Nat.le_refl _))) h))
theorem tup_at {v : Value} {xs : List PyData} {as : List Addr} (I : Inv prog w base G θ s μ) (h : Reads G v (.tuple xs) as) : ∃ a vs, v = .ref a /\ IsTup s.heap a vs /\ ReadsAll G vs.toList xs as :=
 of_tup h fun a o vs n e h1 h2 h3 h4 => ⟨a, vs, e, ⟨_, I.sub _ _ h1, h2, _, h3⟩, h4⟩
theorem list_at {v : Value} {xs : List PyData} {as : List Addr} (I : Inv prog w base G θ s μ) (h : Reads G v (.list xs) as) : ∃ a vs bs, v = .ref a /\ s.heap.IsList a vs /\ ReadsAll G vs.toList xs bs :=
 of_list h fun a o vs n bs e h1 h2 h3 h4 => ⟨a, vs, bs, e, ⟨_, I.sub _ _ h1, h2, _, h3⟩, h4⟩
theorem tup_obj {v : Value} {xs : List PyData} {as : List Addr} {C : Prop} (I : Inv prog w base G θ s μ) (h : Reads G v (.tuple xs) as) (k : ∀ a vs n dd sl, v = .ref a -> s.heap.get? a = some { cls := .type "tuple", dict := dd, data := .seq vs n, slots := sl } -> ReadsAll G vs.toList xs as -> vs.size = xs.length -> C) : C :=
 of_tup h fun a o vs n e h1 h2 h3 h4 => k a vs n o.dict o.slots e (by rw [I.sub _ _ h1, <- h2, <- h3]) h4 (SeqAt.ReadsAll.length _ _ _ h4)
theorem list_obj {v : Value} {xs : List PyData} {as : List Addr} {C : Prop} (I : Inv prog w base G θ s μ) (h : Reads G v (.list xs) as) (k : ∀ a vs n dd sl bs, v = .ref a -> s.heap.get? a = some { cls := .type "list", dict := dd, data := .seq vs n, slots := sl } -> ReadsAll G vs.toList xs bs -> vs.size = xs.length -> C) : C :=
 of_list h fun a o vs n bs e h1 h2 h3 h4 => k a vs n o.dict o.slots bs e (by rw [I.sub _ _ h1, <- h2, <- h3]) h4 (SeqAt.ReadsAll.length _ _ _ h4)
theorem ReadsAll.append {h : Heap} {vs us : List Value} {xs ys : List PyData} {as bs : List Addr} (r : ReadsAll h vs xs as) (q : ReadsAll h us ys bs) : ∃ cs, ReadsAll h (vs ++ us) (xs ++ ys) cs :=
 ra_ind (C := fun vs xs => ∃ cs, ReadsAll h (vs ++ us) (xs ++ ys) cs) ⟨_, q⟩ (fun _ _ _ _ _ _ r1 _ ih => ih.elim fun _ q => ⟨_, .cons r1 q⟩) r
theorem ReadsAll.len {h : Heap} {vs : List Value} {xs : List PyData} {as : List Addr} (r : ReadsAll h vs xs as) : vs.length = xs.length := SeqAt.ReadsAll.length _ _ _ r
theorem smallI_of {i : Int} (h : smallI i = true) : -(2 ^ 40) < i /\ i < 2 ^ 40 := by
 exact ⟨of_decide_eq_true (and_t h).1, of_decide_eq_true (and_t h).2⟩
section
variable {x y z : PyData} {a b : Value} {as bs : List Addr}
theorem size_ok {m n : Nat} {xs ys : List PyData} (h : decide (xs.length + ys.length <= 100000) = true) (h1 : m = xs.length) (h2 : n = ys.length) : m + n <= sizeLine := by
 rw [sizeLine_is, h1, h2]; exact Nat.le_trans (of_decide_eq_true h) (by decide)
theorem s_addL {xs ys : List PyData} (I : Inv prog w base G θ s μ) (ha : Reads G a (.list xs) as) (hb : Reads G b (.list ys) bs) (hs : decide (xs.length + ys.length <= 100000) = true) :
   wpAny (model prog w) A (binaryOp .Add a b) (Post prog w base G θ s μ (.d (.list (xs ++ ys)))) no s :=
 list_obj I ha fun la vs n dd sl _ e1 ho ra l1 => list_obj I hb fun lb us n2 dd2 sl2 _ e2 ho2 rb l2 => (ReadsAll.append ra rb).elim fun cs rc => by
   subst e1 e2
   exact concat_meets ⟨_, ho, rfl⟩ ⟨_, ho2, rfl⟩ noFill_list_add seq_list_add F.slot_list_add F.entry_list_add (F.args_list_add_2 _ _)
     (PyProof.Rows.list_addW la lb vs us n n2 dd dd2 sl sl2 (size_ok hs l1 l2)) ⟨ho, ho2, Post.list I _ (Array.toList_append ▸ rc)⟩
theorem s_addT {xs ys : List PyData} (I : Inv prog w base G θ s μ) (ha : Reads G a (.tuple xs) as) (hb : Reads G b (.tuple ys) bs) (hs : decide (xs.length + ys.length <= 100000) = true) :
   wpAny (model prog w) A (binaryOp .Add a b) (Post prog w base G θ s μ (.d (.tuple (xs ++ ys)))) no s :=
 tup_obj I ha fun la vs n dd sl e1 ho ra l1 => tup_obj I hb fun lb us n2 dd2 sl2 e2 ho2 rb l2 => (ReadsAll.append ra rb).elim fun cs rc => by
   subst e1 e2
   by_cases hv : vs = #[]
   · subst hv
     obtain rfl : xs = [] := List.length_eq_zero_iff.mp l1.symm
     exact concat_meets ⟨_, ho, rfl⟩ ⟨_, ho2, rfl⟩ noFill_tuple_add seq_tuple_add F.slot_tuple_add F.entry_tuple_add (F.args_tuple_add_2 _ _)
       (tuple_addW0 la lb #[] us n n2 dd dd2 sl sl2 rfl) ⟨ho, ho2, Post.here I (.d hb)⟩
   by_cases hw : us = #[]
   · subst hw
     obtain rfl : ys = [] := List.length_eq_zero_iff.mp l2.symm
     exact concat_meets ⟨_, ho, rfl⟩ ⟨_, ho2, rfl⟩ noFill_tuple_add seq_tuple_add F.slot_tuple_add F.entry_tuple_add (F.args_tuple_add_2 _ _)
       (tuple_addW1 la lb vs #[] n n2 dd dd2 sl sl2 (fun e => hv (Array.isEmpty_iff.mp e)) rfl) ⟨ho, ho2, Post.here I (.d ((List.append_nil xs).symm ▸ ha))⟩
   exact concat_meets ⟨_, ho, rfl⟩ ⟨_, ho2, rfl⟩ noFill_tuple_add seq_tuple_add F.slot_tuple_add F.entry_tuple_add (F.args_tuple_add_2 _ _)
     (tuple_addW2 la lb vs us n n2 dd dd2 sl sl2 (fun e => hv (Array.isEmpty_iff.mp e)) (fun e => hw (Array.isEmpty_iff.mp e)) (size_ok hs l1 l2)) ⟨ho, ho2, Post.tuple I _ (Array.toList_append ▸ rc)⟩
theorem at_int {C : Prop} {i : Int} (r : Reads G a x as) (e : x = .int i) (k : ∀ t, a = .int i t -> C) : C := of_int (e ▸ r) k
theorem ints_some {C : Prop} {f : Int -> Int -> Option PyData} (h : ints2 x y f = some z) (k : ∀ i j, x = .int i -> y = .int j -> f i j = some z -> C) : C :=
 bind1 h fun i h1 h => bind1 h fun j h2 h => k i j (of_intD h1) (of_intD h2) h
theorem s_bin {op : Operator} (I : Inv prog w base G θ s μ) (ha : Reads G a x as) (hb : Reads G b y bs) (h : binD op x y = some z) :
   wpAny (model prog w) A (binaryOp op a b) (Post prog w base G θ s μ (.d z)) no s := by
 cases op with
 | Add =>
   cases x with
   | int i =>
     exact bind1 h fun j hj h => if_some h fun _ h => at_int ha rfl fun t e1 => at_int hb (of_intD hj) fun t2 e2 => e1 ▸ e2 ▸ Option.some.inj h ▸ PyProof.Rows.add_int (Post.toks I _ (.d (.int _ _)))
   | list xs => exact bind1 h fun ys hj h => if_some h fun hs h => Option.some.inj h ▸ s_addL I ha (of_listD hj ▸ hb) hs
   | tuple xs => exact bind1 h fun ys hj h => if_some h fun hs h => Option.some.inj h ▸ s_addT I ha (of_tupD hj ▸ hb) hs
   | _ => exact no_some h
 | Sub =>
   exact ints_some h fun i j hi hj h => if_some h fun _ h => at_int ha hi fun t e1 => at_int hb hj fun t2 e2 => e1 ▸ e2 ▸ Option.some.inj h ▸ PyProof.Rows.sub_int (Post.toks I _ (.d (.int _ _)))
 | Mult =>
   refine ints_some h fun i j hi hj h => if_some h fun hs h => at_int ha hi fun t e1 => at_int hb hj fun t2 e2 => e1 ▸ e2 ▸ Option.some.inj h ▸ ?_
   have h1 := smallI_of (and_t hs).1
   have h2 := smallI_of (and_t hs).2
   exact PyProof.Rows.mul_int (Post.toks I _ (.d (.int _ _)))
 | FloorDiv =>
   refine ints_some h fun i j hi hj h => if_some h fun hs h => at_int ha hi fun t e1 => at_int hb hj fun t2 e2 => e1 ▸ e2 ▸ Option.some.inj h ▸ ?_
   have h2 := of_decide_eq_true (and3 hs).2.1
   have h3 := of_decide_eq_true (and3 hs).2.2
   rw [<- Int.fdiv_eq_ediv_of_nonneg i (Int.le_of_lt h2)]
   exact PyProof.Rows.floordiv_int (Int.ne_of_gt h2) (Post.toks I _ (.d (.int _ _))) (Or.inl (PyProof.noPylong_small (by omega)))
 | Mod =>
   refine ints_some h fun i j hi hj h => if_some h fun hs h => at_int ha hi fun t e1 => at_int hb hj fun t2 e2 => e1 ▸ e2 ▸ Option.some.inj h ▸ ?_
   have h2 := of_decide_eq_true (and_t hs).1
   rw [<- Int.fmod_eq_emod_of_nonneg i (Int.le_of_lt h2)]
   exact PyProof.Rows.mod_int' (Int.ne_of_gt h2) (Post.toks I _ (.d (.int _ _)))
 | _ => exact no_some h
end
end
end Mine
end
section
namespace Mine
open PySem PySem.W PyProof.Rows
open scoped Classical
section
variable {P : Par} {prog : Program} {w : World} {base G : Heap} {θ : List Addr} {s : Shared} {μ μ' : Sto} {A : Around} {n : Nat} {r : Rec} {env : Env} {fm : Fm}
theorem dict_at {v : Value} {F : V} {l : List (PyData × PyData)} (I : Inv prog w base G θ s μ) (h : RV prog w G θ v F) (hd : dictOf? μ F = some l) :
   ∃ d o, v = .ref d /\ s.heap.get? d = some o /\ DictObj prog w G o l /\ (d == sysModules) = false := by
 cases F with
 | dict l' => exact of_dic h fun a o e h1 h2 h3 => ⟨a, o, e, I.sub _ _ h1, Option.some.inj hd ▸ h2, h3⟩
 | obj i => exact of_obj h fun a e h1 => (I.rep i a _ h1 (at_dict hd)).2.elim fun o q => ⟨a, o, e, q⟩
 | _ => exact no_some hd
theorem SDict.tab {o : Obj} {l : List (PyData × PyData)} {h : Heap} {d : Addr} (S : SDict prog w o l) (ho : h.get? d = some o) (lo : (d == sysModules) = false) : StrTab prog w h d l :=
 S.elim fun _ q => TabAt.ofObj lo ho q.1 q.2
theorem TDict.tab {o : Obj} {l : List (PyData × PyData)} {h : Heap} {d : Addr} (T : TDict prog w G o l) (hs : Sub G h) (ho : h.get? d = some o) (lo : (d == sysModules) = false) : TabAtH (tupK prog w) (fun k : KT => k.1) h d l :=
 T.elim fun es h => h.elim fun ep h => h.elim fun xs h => ⟨lo, xs, ⟨o, es, ep, ho, h.1, h.2.1, h.2.2.1, fun x hx => (h.2.2.2.1 x hx).mono hs, h.2.2.2.2.1⟩, h.2.2.2.2.2⟩
theorem key_cases {k : PyData} {l : List (PyData × PyData)} {v : Value} {as : List Addr} (h : askOk k l = true) (r : Reads G v k as) :
   (∃ x t, k = .str x /\ v = .str x t /\ strKeys l = true) \/ (∃ (kt : KT) (a : Addr), kt.1 = k /\ v = .ref a /\ KeyAt G kt a /\ tupKeys l = true) := by
 rcases Bool.or_eq_true_iff.mp h with h | h
 · obtain ⟨y, rfl⟩ := is_str (and_t h).1
   exact of_str r fun t e => .inl ⟨y, t, rfl, e, (and_t h).2⟩
 · obtain ⟨y, rfl⟩ := is_tup (and_t (and_t h).1).1
   exact of_tup r fun a _ _ _ e _ _ _ _ => .inr ⟨⟨_, (and_t h).1⟩, a, rfl, e, ⟨as, e ▸ r⟩, (and_t h).2⟩
theorem s_in {k : PyData} {l : List (PyData × PyData)} {a c : Value} {as : List Addr} {F : V} (hu : A.units + 200 < cLine) (I : Inv prog w base G θ s μ) (ra : Reads G a k as) (rc : RV prog w G θ c F)
   (hd : dictOf? μ F = some l) (hk : askOk k l = true) :
   wpAny (model prog w) A (compareOp .In a c) (Post prog w base G θ s μ (.d (.bool (Spec.lookup k l).isSome))) no s := by
 obtain ⟨d, o, rfl, ho, D, lo⟩ := dict_at I rc hd
 rcases key_cases hk ra with ⟨x, t, rfl, rfl, hs⟩ | ⟨kt, ad, rfl, rfl, hka, hs⟩
 · exact in_strTab ((D.1 hs).tab ho lo) (Post.toks I _ (.d (.bool _)))
 · exact in_tabH (knd := tupK prog w) encK (by show A.units + 1 + 20 < cLine; omega) (hka.mono I.sub) ((D.2 hs).tab I.sub ho lo) (Post.toks I _ (.d (.bool _)))
theorem s_notIn {k : PyData} {l : List (PyData × PyData)} {a c : Value} {as : List Addr} {F : V} (hu : A.units + 200 < cLine) (I : Inv prog w base G θ s μ) (ra : Reads G a k as) (rc : RV prog w G θ c F)
   (hd : dictOf? μ F = some l) (hk : askOk k l = true) :
   wpAny (model prog w) A (compareOp .NotIn a c) (Post prog w base G θ s μ (.d (.bool (!(Spec.lookup k l).isSome)))) no s := by
 obtain ⟨d, o, rfl, ho, D, lo⟩ := dict_at I rc hd
 rcases key_cases hk ra with ⟨x, t, rfl, rfl, hs⟩ | ⟨kt, ad, rfl, rfl, hka, hs⟩
 · exact notin_strTab ((D.1 hs).tab ho lo) (Post.toks I _ (.d (.bool _)))
 · exact notin_tabH (knd := tupK prog w) encK (by show A.units + 1 + 20 < cLine; omega) (hka.mono I.sub) ((D.2 hs).tab I.sub ho lo) (Post.toks I _ (.d (.bool _)))
theorem okD_can {x : PyData} (h : okD x = true) : x.canLay0 = true /\ x.depth <= 60 := by
 exact ⟨(and_t h).1, of_decide_eq_true (and_t h).2⟩
theorem s_eq {x y : PyData} {a b : Value} {as bs : List Addr} (hu : A.units + 200 < cLine) (I : Inv prog w base G θ s μ) (ra : Reads G a x as) (rb : Reads G b y bs) (hx : okD x = true) (hy : okD y = true) :
   wpAny (model prog w) A (compareOp .Eq a b) (Post prog w base G θ s μ (.d (.bool (PyData.eqv x y)))) no s := by
 have h1 := okD_can hx
 have h2 := okD_can hy
 have : min x.depth y.depth <= 60 := Nat.le_trans (Nat.min_le_left _ _) h1.2
 exact SeqAt.compareEq_reads (Reads.keeps I.sub ra) (Reads.keeps I.sub rb) h1.1 h2.1 (by omega) (Post.here I (.d (.bool _)))
theorem s_ne {x y : PyData} {a b : Value} {as bs : List Addr} (hu : A.units + 200 < cLine) (I : Inv prog w base G θ s μ) (ra : Reads G a x as) (rb : Reads G b y bs) (hx : okD x = true) (hy : okD y = true) :
   wpAny (model prog w) A (compareOp .NotEq a b) (Post prog w base G θ s μ (.d (.bool (!PyData.eqv x y)))) no s := by
 have h1 := okD_can hx
 have h2 := okD_can hy
 have : min x.depth y.depth <= 60 := Nat.le_trans (Nat.min_le_left _ _) h1.2
 exact SeqAt.compareNe_reads (Reads.keeps I.sub ra) (Reads.keeps I.sub rb) h1.1 h2.1 (by omega) (Post.here I (.d (.bool _)))
theorem s_inList {x : PyData} {ys : List PyData} {a c : Value} {as cs : List Addr} (hu : A.units + 200 < cLine) (I : Inv prog w base G θ s μ) (ra : Reads G a x as) (rc : Reads G c (.list ys) cs) (hx : okD x = true) (hy : okD (.list ys) = true) :
   wpAny (model prog w) A (compareOp .In a c) (Post prog w base G θ s μ (.d (.bool (ys.any fun y => PyData.eqv y x)))) no s := by
 have h1 := okD_can hx
 have h2 := okD_can hy
 have hc : PyData.canLayAll0 ys = true := h2.1
 have : min (PyData.depthAll ys) x.depth <= 60 := Nat.le_trans (Nat.min_le_right _ _) h1.2
 exact SeqAt.in_list_reads (Reads.keeps I.sub rc) (Reads.keeps I.sub ra) hc h1.1 (by omega) (Post.here I (.d (.bool _)))
theorem s_notInList {x : PyData} {ys : List PyData} {a c : Value} {as cs : List Addr} (hu : A.units + 200 < cLine) (I : Inv prog w base G θ s μ) (ra : Reads G a x as) (rc : Reads G c (.list ys) cs) (hx : okD x = true) (hy : okD (.list ys) = true) :
   wpAny (model prog w) A (compareOp .NotIn a c) (Post prog w base G θ s μ (.d (.bool (!ys.any fun y => PyData.eqv y x)))) no s := by
 have h1 := okD_can hx
 have h2 := okD_can hy
 have hc : PyData.canLayAll0 ys = true := h2.1
 have : min (PyData.depthAll ys) x.depth <= 60 := Nat.le_trans (Nat.min_le_right _ _) h1.2
 exact SeqAt.notIn_list_reads (Reads.keeps I.sub rc) (Reads.keeps I.sub ra) hc h1.1 (by omega) (Post.here I (.d (.bool _)))
noncomputable def ordOp (op : CmpOp) : Prop := op = .Lt \/ op = .Gt
noncomputable def ltO (op : CmpOp) (x y : PyData) : Option Bool := if op = .Lt then ltD x y else ltD y x
noncomputable def lexO (op : CmpOp) (x y : List PyData) : Option Bool := if op = .Lt then lexD x y else lexD y x
theorem eqv_symm_lt {x y : PyData} {b : Bool} (h : ltD x y = some b) : PyData.eqv x y = PyData.eqv y x := by
 cases x with
 | int p => exact bind1 h fun q hq _ => of_intD hq ▸ (BEq.comm : (p == q) = (q == p))
 | str p => exact bind1 h fun q hq _ => of_strD hq ▸ (BEq.comm : (p == q) = (q == p))
 | _ => exact no_some h
theorem lexO_cons {op : CmpOp} (ho : ordOp op) {x y : PyData} {xs ys : List PyData} {b : Bool} (h : lexO op (x :: xs) (y :: ys) = some b) :
   ∃ c, ltO op x y = some c /\ (if PyData.eqv x y = true then lexO op xs ys = some b else b = c) := by
 rcases ho with rfl | rfl
 · refine bind1 (show (ltD x y).bind _ = some b from h) fun c hc h => ⟨c, hc, ?_⟩
   by_cases he : PyData.eqv x y = true
   · rw [if_pos he] at h ⊢; exact h
   · rw [if_neg he] at h ⊢; exact (Option.some.inj h).symm
 · refine bind1 (show (ltD y x).bind _ = some b from h) fun c hc h => ⟨c, hc, ?_⟩
   rw [<- eqv_symm_lt hc]
   by_cases he : PyData.eqv y x = true
   · rw [if_pos he] at h ⊢; exact h
   · rw [if_neg he] at h ⊢; exact (Option.some.inj h).symm
theorem at_str {C : Prop} {G : Heap} {v : Value} {x : PyData} {as : List Addr} {i : Str} (r : Reads G v x as) (e : x = .str i) (k : ∀ t, v = .str i t -> C) : C := of_str (e ▸ r) k
theorem s_lt1 {op : CmpOp} (ho : ordOp op) {x y : PyData} {c : Bool} {a b : Value} {as bs : List Addr} {h : Heap} {Q : Value -> Shared -> Prop} {E : Value -> Shared -> Prop}
   (hc : ltO op x y = some c) (ra : Reads h a x as) (rb : Reads h b y bs) (hq : Q (.bool c) s) : wpAny (model prog w) A (richCompare op a b) Q E s := by
 rcases ho with rfl | rfl
 · have hc : ltD x y = some c := hc
   cases x with
   | int i => exact bind1 hc fun j hj hc => at_int ra rfl fun t e1 => at_int rb (of_intD hj) fun t2 e2 => e1 ▸ e2 ▸ PyProof.Rows.lt_int (Option.some.inj hc ▸ hq)
   | str i => exact bind1 hc fun j hj hc => at_str ra rfl fun t e1 => at_str rb (of_strD hj) fun t2 e2 => e1 ▸ e2 ▸ PySem.P.lt_str (Option.some.inj hc ▸ hq)
   | _ => exact no_some hc
 · have hc : ltD y x = some c := hc
   cases y with
   | int i => exact bind1 hc fun j hj hc => at_int rb rfl fun t e1 => at_int ra (of_intD hj) fun t2 e2 => e1 ▸ e2 ▸ PyProof.Rows.gt_int (Option.some.inj hc ▸ hq)
   | str i => exact bind1 hc fun j hj hc => at_str rb rfl fun t e1 => at_str ra (of_strD hj) fun t2 e2 => e1 ▸ e2 ▸ PySem.P.gt_str (Option.some.inj hc ▸ hq)
   | _ => exact no_some hc
noncomputable def sizesO (op : CmpOp) (m k : Nat) : Bool := if op = .Lt then decide (m < k) else decide (m > k)
theorem lexO_nil {op : CmpOp} (ho : ordOp op) {xs ys : List PyData} {b : Bool} (hz : xs = [] \/ ys = []) (h : lexO op xs ys = some b) : sizesO op xs.length ys.length = b := by
 rcases ho with rfl | rfl
 · rcases hz with rfl | rfl
   · cases ys <;> exact Option.some.inj h
   · cases xs <;> exact Option.some.inj h
 · rcases hz with rfl | rfl
   · cases ys <;> exact Option.some.inj h
   · cases xs <;> exact Option.some.inj h
theorem sizesO_succ {op : CmpOp} (ho : ordOp op) (m k : Nat) : sizesO op (m + 1) (k + 1) = sizesO op m k := by
 rcases ho with rfl | rfl <;> exact decide_eq_decide.mpr Nat.succ_lt_succ_iff
theorem tupleCompareSizes_ord {op : CmpOp} (ho : ordOp op) (m k : Nat) : Builtin.Tuple.tupleCompareSizes op m k = .bool (sizesO op m k) := by
 rcases ho with rfl | rfl <;> rfl
noncomputable def TI (op : CmpOp) (c N : Bool) (h : Heap) (rest : List (Value × Value)) : Prop := ∃ (x y : List PyData) (xs ys : List Value) (as bs : List Addr), rest = xs.zip ys /\ ReadsAll h xs x as /\ ReadsAll h ys y bs /\
 (PyData.canLayAll0 x = true /\ PyData.canLayAll0 y = true /\ PyData.depthAll x <= 60) /\ lexO op x y = some c /\ sizesO op xs.length ys.length = N
theorem TI.init {op : CmpOp} {c : Bool} {h : Heap} {xs ys : List Value} {x y : List PyData} {as bs : List Addr} (ra : ReadsAll h xs x as) (rb : ReadsAll h ys y bs) (h1 : PyData.canLayAll0 x = true) (h2 : PyData.canLayAll0 y = true) (h3 : PyData.depthAll x <= 60) (h4 : lexO op x y = some c) :
   TI op c (sizesO op xs.length ys.length) h (xs.zip ys) := ⟨x, y, xs, ys, as, bs, rfl, ra, rb, ⟨h1, h2, h3⟩, h4, rfl⟩
theorem TI.cons {op : CmpOp} (ho : ordOp op) {C : Prop} {c N : Bool} {h : Heap} {u v : Value} {rest : List (Value × Value)} (t : TI op c N h ((u, v) :: rest))
   (k : ∀ x y as bs q, Reads h u x as -> Reads h v y bs -> x.canLay0 = true -> y.canLay0 = true -> min x.depth y.depth <= 60 -> ltO op x y = some q -> (PyData.eqv x y = true -> TI op c N h rest) -> (PyData.eqv x y = false -> c = q) -> C) : C := by
 obtain ⟨x, y, xs, ys, as, bs, hz, ra, rb, ⟨c1, c2, d⟩, hl, hs⟩ := t
 cases xs with
 | nil => exact nomatch hz
 | cons u' xs =>
 cases ys with
 | nil => exact nomatch hz
 | cons v' ys =>
 obtain ⟨e1, e2⟩ := List.cons.inj hz
 cases x with
 | nil => exact of_nil ra fun e => nomatch e
 | cons x0 x =>
 cases y with
 | nil => exact of_nil rb fun e => nomatch e
 | cons y0 y =>
 refine of_cons ra fun u2 xs2 a1 a2 ea r1 ra2 => of_cons rb fun v2 ys2 b1 b2 eb r2 rb2 => ?_
 obtain ⟨q, hq, hc⟩ := lexO_cons ho hl
 have eu : u = u' := congrArg Prod.fst e1
 have ev : v = v' := congrArg Prod.snd e1
 refine k x0 y0 a1 b1 q ((eu.trans (List.cons.inj ea).1) ▸ r1) ((ev.trans (List.cons.inj eb).1) ▸ r2) (and_t c1).1 (and_t c2).1 (Nat.le_trans (Nat.min_le_left _ _) (Nat.le_trans (Nat.le_max_left _ _) d)) hq (fun he => ?_) fun he => ?_
 · rw [if_pos he] at hc
   rw [List.length_cons, List.length_cons, sizesO_succ ho] at hs
   exact ⟨x, y, xs, ys, a2, b2, e2, (List.cons.inj ea).2 ▸ ra2, (List.cons.inj eb).2 ▸ rb2, ⟨(and_t c1).2, (and_t c2).2, Nat.le_trans (Nat.le_max_right _ _) d⟩, hc, hs⟩
 · rw [if_neg fun z => no_ft (he.symm.trans z)] at hc; exact hc
theorem TI.nil {op : CmpOp} (ho : ordOp op) {c N : Bool} {h : Heap} (t : TI op c N h []) : N = c := by
 obtain ⟨x, y, xs, ys, as, bs, hz, ra, rb, _, hl, hs⟩ := t
 have l1 := ReadsAll.len ra
 have l2 := ReadsAll.len rb
 rw [l1, l2] at hs
 refine hs.symm.trans (lexO_nil ho ?_ hl)
 cases xs with
 | nil => exact .inl (List.length_eq_zero_iff.mp l1.symm)
 | cons _ _ =>
   cases ys with
   | nil => exact .inr (List.length_eq_zero_iff.mp l2.symm)
   | cons _ _ => exact nomatch hz
noncomputable def tupB : CmpOp -> Builtin
 | .Lt => Builtin.«tuple.__lt__»
 | _ => Builtin.«tuple.__gt__»
theorem tuple_ord_tree {op : CmpOp} (ho : ordOp op) {l b : Addr} {xs ys : List PyData} {as bs : List Addr} {c : Bool} {Pp : Fin -> Shared -> Prop} {E : Value -> Shared -> Prop} (hu : A.units + 100 < cLine)
   (ra : Reads s.heap (.ref l) (.tuple xs) as) (rb : Reads s.heap (.ref b) (.tuple ys) bs) (hx : okD (.tuple xs) = true) (hy : okD (.tuple ys) = true) (h : lexO op xs ys = some c) (hp : Pp (.done (.ret (.bool c))) s) :
   wpAny (model prog w) A (tupB op ⟨[.ref l, .ref b], []⟩) Pp E s := by
 refine at_tup ra ?_; clear ra; rintro oa vs na a1 a2 a3 a4
 refine at_tup rb ?_; clear rb; rintro ob us nb b1 b2 b3 b4
 have hTb : s.TypeIs (.ref b) "tuple" := ⟨ob, b1, b2⟩
 have main : wpAny (model prog w) A (isInstance (.ref b) (.type "tuple") >>= fun i => if !i then (do ret .notImplemented) else do
     let xs <- Builtin.Tuple.tupleItemsOf (.ref l)
     let ys <- Builtin.Tuple.tupleItemsOf (.ref b)
     for (x, y) in xs.toList.zip ys.toList do
       if !(<- eqBool x y) then
         match op with
         | .Eq => return <- ret (.bool false)
         | .NotEq => return <- ret (.bool true)
         | _ => rule "tuple.compare.by-the-first-pair-that-differs"; return <- ret (<- richCompare op x y)
     ret (Builtin.Tuple.tupleCompareSizes op xs.size ys.size)) Pp E s := by
   refine wpAny_bind (wpAny_isInstance hTb isSubtype_tuple_tuple ?_)
   simp only [Bool.not_true, Bool.false_eq_true, if_false]
   refine wpAny_bind (wpAny_tupleItemsOf a1 a3 ?_)
   refine wpAny_bind (wpAny_tupleItemsOf b1 b3 ?_)
   refine wpAny_bind ?_
   have kx := okD_can hx
   have ky := okD_can hy
   refine wpAny_forIn_list _ (fun rest r s' => r.1 = none /\ s' = s /\ TI op c (sizesO op vs.size us.size) s.heap rest) _ ?_ ?_ _ _ ⟨rfl, rfl, TI.init a4 b4 kx.1 ky.1 (Nat.le_of_succ_le kx.2) h⟩
   · rintro ⟨u, v⟩ rest r s' ⟨hr, rfl, ti⟩
     refine ti.cons ho fun x0 y0 as1 bs1 q h1 h2 c1 c2 dm hq next stop => ?_
     clear ti
     refine wpAny_bind (SeqAt.eqBoolOverData prog w _ _ _ _ _ x0 y0 _ _ _ h1 h2 c1 c2 (by omega) ?_)
     cases he : PyData.eqv x0 y0 with
     | true =>
       simp only [Bool.not_true, Bool.false_eq_true, if_false]
       exact wpAny_pure ⟨rfl, rfl, next he⟩
     | false =>
       simp only [Bool.not_false, if_true]
       have fin : wpAny (model prog w) A (richCompare op u v) (fun w' s'' => w' = .bool c /\ s'' = s') E s' := s_lt1 ho hq h1 h2 ⟨stop he ▸ rfl, rfl⟩
       clear next stop h1 h2 c1 c2 dm hq he
       rcases ho with rfl | rfl
       all_goals
         refine wpAny_bind (wpAny_rule (wpAny_bind (wpAny_mono fin (fun w' s'' hw => ?_) fun _ _ e => e)))
         obtain ⟨rfl, rfl⟩ := hw
         first
           | exact wpAny_bind (wpAny_pure (wpAny_pure (wpAny_pure hp)))
           | exact wpAny_pure (wpAny_pure hp)
           | exact wpAny_pure (wpAny_bind (wpAny_pure (wpAny_pure hp)))
   · rintro ⟨r1, r2⟩ s' ⟨hr, rfl, ti⟩
     obtain rfl : r1 = none := hr
     refine wpAny_pure ?_
     rw [tupleCompareSizes_ord ho, ti.nil ho]
     exact hp
 rcases ho with rfl | rfl
 · exact main
 · exact main
end
end Mine
end
section
namespace Mine
open PySem PySem.W PyProof.Rows
open PySem.AutoSeq1 (wpAny_loadPart')
open PySem.MeetsSeq PySem.MeetsSeq2 PySem.MeetsSeq3 PySem.SeqRoads2
section
variable {P : Par} {prog : Program} {w : World} {base G : Heap} {θ : List Addr} {s : Shared} {μ μ' : Sto} {A : Around} {n : Nat} {r : Rec} {env : Env} {fm : Fm}
noncomputable def codeOrd : CmpOp -> Int
 | .Lt => 0
 | _ => 4
noncomputable def lstB : CmpOp -> Builtin
 | .Lt => Builtin.«list.__lt__»
 | _ => Builtin.«list.__gt__»
theorem getElem_some {vs : Array Value} {i : Nat} (h : i < vs.size) : vs[i]? = some vs[i] := by simp [h]
theorem listItems_at {M : Model} {E : Value -> Shared -> Prop} {a : Addr} {o : Obj} {items : Array Value} {n : Nat} {Q : Array Value -> Shared -> Prop} (ho : s.heap.get? a = some o) (hd : o.data = .seq items n) (h : Q items s) :
   wpAny M A (Builtin.List.listItems (.ref a)) Q E s := by
 unfold Builtin.List.listItems
 first
   | exact wpAny_bind (wpAny_seqItems ho hd (wpAny_pure h))
   | exact wpAny_seqItems ho hd h
theorem zip_at {vs us : Array Value} {i : Nat} (h1 : i < vs.size) (h2 : i < us.size) : (vs.toList.zip us.toList).drop i = (vs[i], us[i]) :: (vs.toList.zip us.toList).drop (i + 1) := by
 have hl : i < (vs.toList.zip us.toList).length := by rw [List.length_zip]; exact Nat.lt_min.mpr ⟨h1, h2⟩
 rw [List.drop_eq_getElem_cons hl, List.getElem_zip]; rfl
theorem at_none {us : Array Value} {i : Nat} (h : us.size <= i) : us[((i : Nat) : Int).toNat]? = none := by
 rw [Int.toNat_natCast]; exact Array.getElem?_eq_none h
theorem at_some {us : Array Value} {i : Nat} (h : i < us.size) : us[((i : Nat) : Int).toNat]? = some us[i] := by
 rw [Int.toNat_natCast]; exact Array.getElem?_eq_getElem h
theorem list_ord_loop {op : CmpOp} (ho : ordOp op) (l b : Addr) (vs us : Array Value) (n n2 : Nat) (dd dd2 : Option Addr) (sl sl2 : Array (Option Value)) (c : Bool) (k : Nat) :
   ∀ i : Nat, vs.size - i = k -> Meets (Builtin.«list.__eq__.loop» ⟨[.ref l, .ref b, rawInt i, rawInt (codeOrd op)], []⟩)
     (fun A R s => A.units + 150 < cLine /\ s.heap.get? l = some { cls := .type "list", dict := dd, data := .seq vs n, slots := sl } /\ s.heap.get? b = some { cls := .type "list", dict := dd2, data := .seq us n2, slots := sl2 } /\
       TI op c (sizesO op vs.size us.size) s.heap ((vs.toList.zip us.toList).drop i) /\ R (.ok (.ret (.bool c))) s) := by
 induction k with
 | zero =>
   intro i hk prog w A R s h
   obtain ⟨hp, g, d, tk, os⟩ := s
   obtain ⟨hu, hl, hb, ti, h⟩ := h
   have hi : vs.size <= i := Nat.le_of_sub_eq_zero hk
   rw [List.drop_eq_nil_of_le (by rw [List.length_zip]; exact Nat.le_trans (Nat.min_le_left _ _) hi)] at ti
   have hn1 := at_none hi
   have hfin := ti.nil ho
   clear ti
   rcases ho with rfl | rfl
   all_goals
     show wpAny _ _ (Builtin.List.listItems (.ref l) >>= _) _ _ _
     refine wpAny_bind (listItems_at hl rfl ?_)
     show wpAny _ _ (Builtin.List.listItems (.ref b) >>= _) _ _ _
     refine wpAny_bind (listItems_at hb rfl ?_)
     rw [hn1]
     refine wpAny_bind (listItems_at hl rfl ?_)
     refine wpAny_bind (listItems_at hb rfl ?_)
     subst hfin
     exact wpAny_pure h
 | succ k ih =>
   intro i hk prog w A R s h
   obtain ⟨hp, g, d, tk, os⟩ := s
   obtain ⟨hu, hl, hb, ti, h⟩ := h
   have hlt : i < vs.size := Nat.lt_of_sub_pos (hk ▸ Nat.succ_pos k)
   by_cases hlt2 : i < us.size
   · have hn1 := at_some hlt
     have hn2 := at_some hlt2
     have hc : ((i : Int) + 1) = ((i + 1 : Nat) : Int) := rfl
     rw [zip_at hlt hlt2] at ti
     refine ti.cons ho fun x y as1 bs1 q r1 r2 m1 m2 dm hq next stop => ?_
     clear ti
     have heq : SeqAt.EqAt A.in1 ⟨hp, g, d, tk, os⟩ vs[i] us[i] (PyData.eqv x y) := fun prog w E Q hQ =>
       SeqAt.eqBoolOverData prog w A.in1 E _ _ _ x y _ _ Q r1 r2 m1 m2 (by show A.units + 1 + _ < cLine; omega) hQ
     have goOn : PyData.eqv x y = true -> codeAny (model prog w) A (.builtin "list.__eq__.loop" ⟨[.ref l, .ref b, rawInt ((i + 1 : Nat) : Int), rawInt (codeOrd op)], []⟩) R ⟨hp, g, d, tk, os⟩ := fun he =>
       codeAny_builtin entry_eq_loop (by
         rw [Around.under_plainId plain_eq_loop _]
         exact ih (i + 1) (by rw [Nat.sub_add_eq, hk]; rfl) prog w A R _ ⟨hu, hl, hb, next he, h⟩)
     have less : ∀ (Q : Value -> Shared -> Prop) (E : Value -> Shared -> Prop), Q (.bool q) ⟨hp, g, d, tk, os⟩ -> wpAny (model prog w) A.in1 (richCompare op vs[i] us[i]) Q E ⟨hp, g, d, tk, os⟩ := fun Q E hQ => s_lt1 ho hq r1 r2 hQ
     generalize PyData.eqv x y = bb at heq goOn stop
     clear next r1 r2 m1 m2 dm hq hk
     rcases ho with rfl | rfl
     all_goals
       show wpAny _ _ (Builtin.List.listItems (.ref l) >>= _) _ _ _
       refine wpAny_bind (listItems_at hl rfl ?_)
       show wpAny _ _ (Builtin.List.listItems (.ref b) >>= _) _ _ _
       refine wpAny_bind (listItems_at hb rfl ?_)
       rw [hn1, hn2]
       refine wpAny_bind (heq prog w _ _ ?_)
       cases bb with
       | true =>
         rw [if_pos rfl, hc]
         exact wpAny_pure ⟨plainId_quiet plain_eq_loop _, goOn rfl⟩
       | false =>
         rw [if_neg Bool.false_ne_true]
         refine wpAny_bind (listItems_at hl rfl ?_)
         refine wpAny_bind (listItems_at hb rfl ?_)
         rw [hn1, hn2]
         have e := stop rfl
         subst e
         refine wpAny_bind (less _ _ ?_)
         exact wpAny_pure h
   · have hi := Nat.le_of_not_lt hlt2
     have hn1 := at_some hlt
     have hn2 := at_none hi
     rw [List.drop_eq_nil_of_le (by rw [List.length_zip]; exact Nat.le_trans (Nat.min_le_right _ _) hi)] at ti
     have hfin := ti.nil ho
     clear ti
     rcases ho with rfl | rfl
     all_goals
       show wpAny _ _ (Builtin.List.listItems (.ref l) >>= _) _ _ _
       refine wpAny_bind (listItems_at hl rfl ?_)
       show wpAny _ _ (Builtin.List.listItems (.ref b) >>= _) _ _ _
       refine wpAny_bind (listItems_at hb rfl ?_)
       rw [hn1, hn2]
       refine wpAny_bind (listItems_at hl rfl ?_)
       refine wpAny_bind (listItems_at hb rfl ?_)
       subst hfin
       exact wpAny_pure h
end
end Mine
end
section
namespace Mine
open PySem PySem.W PyProof.Rows
open PySem.AutoSeq1 (wpAny_loadPart')
open PySem.MeetsSeq PySem.MeetsSeq2 PySem.MeetsSeq3 PySem.SeqRoads2
section
variable {P : Par} {prog : Program} {w : World} {base G : Heap} {θ : List Addr} {s : Shared} {μ μ' : Sto} {A : Around} {n : Nat} {r : Rec} {env : Env} {fm : Fm}
theorem list_ord {op : CmpOp} (ho : ordOp op) (l b : Addr) (vs us : Array Value) (n n2 : Nat) (dd dd2 : Option Addr) (sl sl2 : Array (Option Value)) (c : Bool) :
   Meets (lstB op ⟨[.ref l, .ref b], []⟩)
     (fun A R s => A.units + 150 < cLine /\ s.heap.get? l = some { cls := .type "list", dict := dd, data := .seq vs n, slots := sl } /\ s.heap.get? b = some { cls := .type "list", dict := dd2, data := .seq us n2, slots := sl2 } /\
       TI op c (sizesO op vs.size us.size) s.heap (vs.toList.zip us.toList) /\ R (.ok (.ret (.bool c))) s) := by
 intro prog w A R s h
 obtain ⟨hp, g, d, tk, os⟩ := s
 obtain ⟨hu, hl, hb, ti, h⟩ := h
 have f3 := AutoSeq1.sub_list_list
 have goOn : codeAny (model prog w) A (.builtin "list.__eq__.loop" ⟨[.ref l, .ref b, rawInt ((0 : Nat) : Int), rawInt (codeOrd op)], []⟩) R ⟨hp, g, d, tk, os⟩ :=
   codeAny_builtin entry_eq_loop (by
     rw [Around.under_plainId plain_eq_loop _]
     exact list_ord_loop ho l b vs us n n2 dd dd2 sl sl2 c _ 0 rfl prog w A R _ ⟨hu, hl, hb, ti, h⟩)
 have hTb : Shared.TypeIs ⟨hp, g, d, tk, os⟩ (.ref b) "list" := ⟨_, hb, rfl⟩
 rcases ho with rfl | rfl
 all_goals
   show wpAny _ _ (isInstance (.ref b) (.type "list") >>= _) _ _ _
   refine wpAny_bind (wpAny_isInstance hTb f3 ?_)
   exact wpAny_pure ⟨plainId_quiet plain_eq_loop _, goOn⟩
theorem ord_some {C : Prop} {x y : PyData} {c : Bool} (h : lessD x y = some c) (int : ∀ i j, x = .int i -> y = .int j -> ltD x y = some c -> C)
   (tup : ∀ l m, x = .tuple l -> y = .tuple m -> okD x = true -> okD y = true -> lexD l m = some c -> C) (lst : ∀ l m, x = .list l -> y = .list m -> okD x = true -> okD y = true -> lexD l m = some c -> C) : C := by
 cases x with
 | int i => exact bind1 h fun j hj e => int i j rfl (of_intD hj) h
 | tuple l => exact bind1 h fun m hm h => if_some h fun hk h => tup l m rfl (of_tupD hm) (and_t hk).1 (and_t hk).2 h
 | list l => exact bind1 h fun m hm h => if_some h fun hk h => lst l m rfl (of_listD hm) (and_t hk).1 (and_t hk).2 h
 | _ => exact no_some h
theorem s_lessT {op : CmpOp} (ho : ordOp op) {xs ys : List PyData} {c : Bool} {a b : Value} {as bs : List Addr} (hu : A.units + 200 < cLine) (I : Inv prog w base G θ s μ) (ra : Reads G a (.tuple xs) as) (rb : Reads G b (.tuple ys) bs)
   (k1 : okD (.tuple xs) = true) (k2 : okD (.tuple ys) = true) (hc : lexO op xs ys = some c) {Q : Value -> Shared -> Prop} (hQ : Q (.bool c) s) : wpAny (model prog w) A (richCompare op a b) Q no s :=
 of_tup ra fun la oa vs na e1 a1 a2 a3 a4 => of_tup rb fun lb ob us nb e2 b1 b2 b3 b4 => by
   subst e1 e2
   have hTa : s.TypeIs (.ref la) "tuple" := ⟨oa, I.sub _ _ a1, a2⟩
   have hTb : s.TypeIs (.ref lb) "tuple" := ⟨ob, I.sub _ _ b1, b2⟩
   have tree := fun op ho hc => tuple_ord_tree (prog := prog) (w := w) (A := A.in1) (E := no) (Pp := fun q s' => ∃ v, q = .done (.ret v) /\ v ≠ .notImplemented /\ Q v s') (op := op) ho (by show A.units + 1 + 100 < cLine; omega) (Reads.keeps I.sub ra) (Reads.keeps I.sub rb) k1 k2 hc ⟨_, rfl, (fun e => nomatch e), hQ⟩
   rcases ho with rfl | rfl
   · exact wpAny_richCompare_same_room (op := .Lt) hTa hTb F.slot_tuple_lt (wpAny_call_entry F.slot_tuple_lt hTa F.entry_tuple_lt (tree .Lt (.inl rfl) hc) (F.args_tuple_lt_2 _ _)) (by omega)
   · exact wpAny_richCompare_same_room (op := .Gt) hTa hTb F.slot_tuple_gt (wpAny_call_entry F.slot_tuple_gt hTa F.entry_tuple_gt (tree .Gt (.inr rfl) hc) (F.args_tuple_gt_2 _ _)) (by omega)
theorem s_lessL {op : CmpOp} (ho : ordOp op) {xs ys : List PyData} {c : Bool} {a b : Value} {as bs : List Addr} (hu : A.units + 200 < cLine) (I : Inv prog w base G θ s μ) (ra : Reads G a (.list xs) as) (rb : Reads G b (.list ys) bs)
   (k1 : okD (.list xs) = true) (k2 : okD (.list ys) = true) (hc : lexO op xs ys = some c) {Q : Value -> Shared -> Prop} (hQ : Q (.bool c) s) : wpAny (model prog w) A (richCompare op a b) Q no s :=
 list_obj I ra fun la vs na dd sl _ e1 e3 a4 _ => list_obj I rb fun lb us nb dd2 sl2 _ e2 e4 b4 _ => by
   subst e1 e2
   have ti := TI.init (ReadsAll.keeps I.sub a4) (ReadsAll.keeps I.sub b4) (okD_can k1).1 (okD_can k2).1 (Nat.le_of_succ_le (okD_can k1).2) hc
   have h15 : A.units + 150 < cLine := by omega
   rcases ho with rfl | rfl
   · exact richCompare_meets_room (op := .Lt) ⟨_, e3, rfl⟩ ⟨_, e4, rfl⟩ F.slot_list_lt F.entry_list_lt (F.args_list_lt_2 _ _) (list_ord (op := .Lt) (.inl rfl) la lb vs us na nb dd dd2 sl sl2 c)
       ⟨by omega, e3, e4, ti, show Value.bool c ≠ Value.notImplemented /\ _ from ⟨(fun x => nomatch x), hQ⟩⟩ (by omega)
   · exact richCompare_meets_room (op := .Gt) ⟨_, e3, rfl⟩ ⟨_, e4, rfl⟩ F.slot_list_gt F.entry_list_gt (F.args_list_gt_2 _ _) (list_ord (op := .Gt) (.inr rfl) la lb vs us na nb dd dd2 sl sl2 c)
       ⟨by omega, e3, e4, ti, show Value.bool c ≠ Value.notImplemented /\ _ from ⟨(fun x => nomatch x), hQ⟩⟩ (by omega)
section
variable {x y : PyData} {c : Bool} {a b : Value} {as bs : List Addr}
theorem s_less {Q : Value -> Shared -> Prop} (hu : A.units + 200 < cLine) (I : Inv prog w base G θ s μ) (ra : Reads G a x as) (rb : Reads G b y bs) (h : lessD x y = some c) (hQ : Q (.bool c) s) : wpAny (model prog w) A (compareOp .Lt a b) Q no s :=
 cmp_ofLt (ord_some h (fun i j _ _ hc => s_lt1 (.inl rfl) hc ra rb hQ) (fun l m e1 e2 k1 k2 hc => s_lessT (.inl rfl) hu I (e1 ▸ ra) (e2 ▸ rb) (e1 ▸ k1) (e2 ▸ k2) hc hQ) (fun l m e1 e2 k1 k2 hc => s_lessL (.inl rfl) hu I (e1 ▸ ra) (e2 ▸ rb) (e1 ▸ k1) (e2 ▸ k2) hc hQ))
theorem s_more {Q : Value -> Shared -> Prop} (hu : A.units + 200 < cLine) (I : Inv prog w base G θ s μ) (ra : Reads G a x as) (rb : Reads G b y bs) (h : lessD y x = some c) (hQ : Q (.bool c) s) : wpAny (model prog w) A (compareOp .Gt a b) Q no s :=
 cmp_ofGt (ord_some h (fun i j _ _ hc => s_lt1 (.inr rfl) hc ra rb hQ) (fun l m e1 e2 k1 k2 hc => s_lessT (.inr rfl) hu I (e2 ▸ ra) (e1 ▸ rb) (e2 ▸ k2) (e1 ▸ k1) hc hQ) (fun l m e1 e2 k1 k2 hc => s_lessL (.inr rfl) hu I (e2 ▸ ra) (e1 ▸ rb) (e2 ▸ k2) (e1 ▸ k1) hc hQ))
theorem eq_some {C : Prop} {Y : V} (h : (datOf Y).bind (eqD x) = some c) (k : ∀ y, Y = .d y -> okD x = true -> okD y = true -> PyData.eqv x y = c -> C) : C :=
 bind1 h fun y hy h => if_some h fun hk h => k y (of_dat hy) (and_t hk).1 (and_t hk).2 (Option.some.inj h)
theorem in_some {C : Prop} {Y : V} (h : inM μ x Y = some c) (lst : ∀ ys, Y = .d (.list ys) -> okD x = true -> okD (.list ys) = true -> (ys.any fun y => PyData.eqv y x) = c -> C)
   (tab : ∀ l, dictOf? μ Y = some l -> askOk x l = true -> (Spec.lookup x l).isSome = c -> C) : C := by
 have gen : (dictOf? μ Y).bind (inTab x) = some c -> C := fun h => bind1 h fun l hl h => if_some h fun hk h => tab l hl hk (Option.some.inj h)
 cases Y with
 | d y => exact bind1 h fun ys hy h => if_some h fun hk h => lst ys (of_listD hy ▸ rfl) (and_t hk).1 (of_listD hy ▸ (and_t hk).2) (Option.some.inj h)
 | _ => exact gen h
theorem not_some {C : Prop} {o : Option Bool} (h : notO o = some c) (k : ∀ d, o = some d -> (!d) = c -> C) : C := by
 cases o with
 | none => exact no_some h
 | some d => exact k d rfl (Option.some.inj h)
theorem s_cmp {op : CmpOp} {X Y : V} (hu : A.units + 200 < cLine) (I : Inv prog w base G θ s μ) (ra : RV prog w G θ a X) (rb : RV prog w G θ b Y) (h : cmpM μ op X Y = some c) :
   wpAny (model prog w) A (compareOp op a b) (Post prog w base G θ s μ (.d (.bool c))) no s := by
 refine bind1 h fun x hx h => ?_
 have hQ : Post prog w base G θ s μ (.d (.bool c)) (.bool c) s := Post.here I (.d (.bool c))
 refine (of_dat hx ▸ ra).data.elim fun as r1 => ?_
 clear ra hx
 cases op with
 | Eq => exact eq_some h fun y hy k1 k2 e => (hy ▸ rb).data.elim fun bs r2 => e ▸ s_eq hu I r1 r2 k1 k2
 | NotEq => exact not_some h fun d h e2 => eq_some h fun y hy k1 k2 e => (hy ▸ rb).data.elim fun bs r2 => e2 ▸ e ▸ s_ne hu I r1 r2 k1 k2
 | Lt => exact bind1 h fun y hy h => (of_dat hy ▸ rb).data.elim fun bs r2 => s_less hu I r1 r2 h hQ
 | Gt => exact bind1 h fun y hy h => (of_dat hy ▸ rb).data.elim fun bs r2 => s_more hu I r1 r2 h hQ
 | In => exact in_some h (fun ys e k1 k2 e2 => (e ▸ rb).data.elim fun bs r2 => e2 ▸ s_inList hu I r1 r2 k1 k2) fun l hl hk e => e ▸ s_in hu I r1 rb hl hk
 | NotIn => exact not_some h fun d h e3 => in_some h (fun ys e k1 k2 e2 => (e ▸ rb).data.elim fun bs r2 => e3 ▸ e2 ▸ s_notInList hu I r1 r2 k1 k2) fun l hl hk e => e3 ▸ e ▸ s_notIn hu I r1 rb hl hk
 | _ => exact no_some h
end
end
end Mine
end
section
namespace Mine
open PySem PySem.W PyProof.Rows
open scoped Classical
section
variable {P : Par} {prog : Program} {w : World} {base G : Heap} {θ : List Addr} {s : Shared} {μ μ' : Sto} {A : Around} {n : Nat} {r : Rec} {env : Env} {fm : Fm}
theorem s_tail {value slice : Expr} {o i : Value} {T id : String} {Q : Value -> Shared -> Prop} (hT : s.TypeIs o T) (hl : typeLookup (.type T) "__getitem__" = pure (some (.builtin id)))
   (h : wpAny (model prog w) A (getItem o i) Q no s) : wpAny (model prog w) A (subscriptTail value slice o i) Q no s := by
 unfold subscriptTail
 refine wpAny_bind ?_
 rw [getitemInPython_of_ne hT.not_modules]
 refine wpAny_bind (wpAny_specialOf hT hl ?_)
 have hs : ∃ ops, subscripted slice false o i = operate ops (getItem o i) := by
   cases slice with
   | Slice lo hi st p => cases st <;> exact ⟨_, rfl⟩
   | _ => exact ⟨_, rfl⟩
 have fin : wpAny (model prog w) A (subscripted slice false o i) (fun r s₃ => wpAny (model prog w) A (letTemporaryGo value o r >>= fun _ => pure r) Q no s₃) no s := by
   obtain ⟨ops, e⟩ := hs
   rw [e]
   exact wpAny_operating (wpAny_mono h (fun r s₃ h₃ => wpAny_bind (wpAny_letTemporaryGo (wpAny_pure h₃))) fun _ _ x => x)
 first
   | exact wpAny_pure (wpAny_bind fin)
   | exact wpAny_bind (wpAny_pure (wpAny_bind fin))
   | exact wpAny_bind fin
theorem nthD_of {l : List PyData} {i : Int} {x : PyData} (h : nthD l i = some x) : 0 <= i /\ i < l.length /\ i < 2 ^ 63 /\ l[i.toNat]? = some x := by
 unfold nthD at h
 refine if_some h ?_; clear h; intro hk h
 exact ⟨of_decide_eq_true (and3 hk).1, of_decide_eq_true (and3 hk).2.1, Int.lt_trans (of_decide_eq_true (and3 hk).2.2) (by decide), h⟩
theorem seqIndex_in {k : Int} {len : Nat} (h0 : 0 <= k) (h1 : k < len) : seqIndex? k len = some k.toNat := by
 unfold seqIndex?
 have e : ¬ k < 0 := Int.not_lt.mpr h0
 simp [e, h0, h1]
theorem item_tuple {o value slice} {l : List PyData} {k : Int} {t : Tok} {x : PyData} {as : List Addr} (I : Inv prog w base G θ s μ) (r1 : Reads G o (.tuple l) as) (hx : nthD l k = some x) :
   wpAny (model prog w) A (subscriptTail value slice o (.int k t)) (Post prog w base G θ s μ (.d x)) no s := by
 obtain ⟨h0, h1, hb, hx⟩ := nthD_of hx
 obtain ⟨a, vs, rfl, ht, ra⟩ := tup_at I r1
 obtain ⟨v, cs, hv, rv⟩ := readsAll_get ra hx
 have ll := ReadsAll.len ra
 simp only [Array.length_toList] at ll
 exact s_tail ht.typeIs slot_tuple_getitem.lookup (getItem_tuple ht (by omega) hb (seqIndex_in h0 (by rw [ll]; exact h1)) (by simpa using hv) (Post.here I (.d rv)))
theorem item_list {o value slice} {l : List PyData} {k : Int} {t : Tok} {x : PyData} {as : List Addr} (I : Inv prog w base G θ s μ) (r1 : Reads G o (.list l) as) (hx : nthD l k = some x) :
   wpAny (model prog w) A (subscriptTail value slice o (.int k t)) (Post prog w base G θ s μ (.d x)) no s := by
 obtain ⟨h0, h1, hb, hx⟩ := nthD_of hx
 obtain ⟨a, vs, _, rfl, ht, ra⟩ := list_at I r1
 obtain ⟨v, cs, hv, rv⟩ := readsAll_get ra hx
 exact s_tail ht.typeIs list_getitem_lookup (wpAny_getItem_list ht h0 hb (by simpa using hv) (Post.here I (.d rv)))
theorem item_mlist {a : Addr} {value slice} {j : Nat} {l : List PyData} {k : Int} {t : Tok} {x : PyData} (I : Inv prog w base G θ s μ) (ha : θ[j]? = some a) (hm : μ[j]? = some (.list l)) (hx : nthD l k = some x) :
   wpAny (model prog w) A (subscriptTail value slice (.ref a) (.int k t)) (Post prog w base G θ s μ (.d x)) no s := by
 obtain ⟨h0, h1, hb, hx⟩ := nthD_of hx
 obtain ⟨_, o, vs, m, as, h1', h2, h3, ra, _⟩ := I.rep j a _ ha hm
 have hl : s.heap.IsList a vs := ⟨o, h1', h2, m, h3⟩
 obtain ⟨v, cs, hv, rv⟩ := readsAll_get ra hx
 exact s_tail hl.typeIs list_getitem_lookup (wpAny_getItem_list hl h0 hb (by simpa using hv) (Post.here I (.d rv)))
theorem item_str {value slice} {x : Str} {t u : Tok} {c : Nat} (I : Inv prog w base G θ s μ) (hc : x.cps[0]? = some c) :
   wpAny (model prog w) A (subscriptTail value slice (.str x t) (.int 0 u)) (Post prog w base G θ s μ (.d (.str ⟨#[c]⟩))) no s := by
 have hlen : 0 < x.length := by
   have := (Array.getElem?_eq_some_iff.mp hc).1
   exact this
 refine s_tail (typeIs_str s x t) F.slot_str_getitem.lookup (PySem.P.getItem_str (by decide) ?_ (Post.toks I _ (.d (.str _ _))))
 rw [seqIndex_in (by omega) (by omega)]
 exact hc
theorem s_dictItem {o i : Value} {O : V} {X : V} {k : PyData} {as : List Addr} {l : List (PyData × PyData)} (hu : A.units + 200 < cLine) (I : Inv prog w base G θ s μ) (ro : RV prog w G θ o O) (rk : Reads G i k as) (hd : dictOf? μ O = some l) (hx : itemT k l = some X) {value slice : Expr} :
   wpAny (model prog w) A (subscriptTail value slice o i) (Post prog w base G θ s μ X) no s := by
 refine if_some hx ?_; clear hx; intro hk hx
 obtain ⟨dv, hdv, rfl⟩ := Option.map_eq_some_iff.mp hx
 obtain ⟨d, ob, rfl, ho, D, lo⟩ := dict_at I ro hd
 rcases key_cases hk rk with ⟨x, t, rfl, rfl, hs⟩ | ⟨kt, ad, rfl, rfl, hka, hs⟩
 · obtain ⟨_, kvs, hd', hf⟩ := (D.1 hs).tab ho lo
   obtain ⟨v, hv, hfl⟩ := hf.of_lookup PyProof.V.same_str hdv
   exact s_tail hd'.typeIs slot_dict_getitem.lookup (wpAny_getItem_of (strKind_is prog w x t) hd'.mapOf hv (Post.toks I _ (Flat.rv hfl)))
 · obtain ⟨_, xs, hd', hf⟩ := (D.2 hs).tab I.sub ho lo
   obtain ⟨v, hv, hfl⟩ := hf.of_lookup encK hdv
   rw [valueAt_kvsOf] at hv
   obtain ⟨p, hp, rfl⟩ := Option.map_eq_some_iff.mp hv
   exact s_tail hd'.typeIs slot_dict_getitem.lookup (wpAny_getItem_heap (knd := tupK prog w) (by show A.units + 1 + 20 < cLine; omega) (hka.mono I.sub) hd' hp (Post.toks I _ (Flat.rv hfl)))
theorem nth_some {C : Prop} {l : List PyData} {i : Int} {X : V} (h : (nthD l i).map V.d = some X) (k : ∀ x, nthD l i = some x -> V.d x = X -> C) : C := (Option.map_eq_some_iff.mp h).elim fun x q => k x q.1 q.2
theorem s_item {o i : Value} {O K X : V} (hu : A.units + 200 < cLine) (I : Inv prog w base G θ s μ) (ro : RV prog w G θ o O) (ri : RV prog w G θ i K) (h : itemM μ O K = some X) {value slice : Expr} :
   wpAny (model prog w) A (subscriptTail value slice o i) (Post prog w base G θ s μ X) no s := by
 refine bind1 h fun k hk h => (of_dat hk ▸ ri).data.elim fun bs r2 => ?_
 clear hk ri
 cases O with
 | d x =>
   refine ro.data.elim fun as r1 => ?_
   cases x with
   | tuple l => exact bind1 h fun j hj h => nth_some h fun x hx e => at_int r2 (of_intD hj) fun t e2 => e ▸ e2 ▸ item_tuple I r1 hx
   | list l => exact bind1 h fun j hj h => nth_some h fun x hx e => at_int r2 (of_intD hj) fun t e2 => e ▸ e2 ▸ item_list I r1 hx
   | str x => exact bind1 h fun j hj h => if_some h fun h0 h => bind1 h fun c hc h => of_str r1 fun t e1 => at_int r2 ((of_intD hj).trans (congrArg PyData.int (of_decide_eq_true h0))) fun u e2 => Option.some.inj h ▸ e1 ▸ e2 ▸ item_str I hc
   | _ => exact no_some h
 | obj j =>
   refine bind1 h fun m hm h => ?_
   cases m with
   | list l =>
     cases hi : intOf k with
     | none => rw [hi] at h; exact no_some h
     | some n => rw [hi] at h; exact nth_some h fun x hx e => at_int r2 (of_intD hi) fun t e2 => of_obj ro fun a e3 e4 => e ▸ e2 ▸ e3 ▸ item_mlist I e4 hm hx
   | dict l => exact s_dictItem hu I ro r2 (show (μ[j]?).bind dictO = some l from hm ▸ rfl) h
   | _ => exact no_some h
 | dict l => exact s_dictItem hu I ro r2 rfl h
 | _ => exact no_some h
theorem readsAll_rev {h : Heap} {vs : List Value} {xs : List PyData} {as : List Addr} (r : ReadsAll h vs xs as) : ∃ bs, ReadsAll h vs.reverse xs.reverse bs :=
 ra_ind (C := fun vs xs => ∃ bs, ReadsAll h vs.reverse xs.reverse bs) ⟨_, .nil⟩ (fun _ _ _ _ _ _ r1 _ ih => ih.elim fun _ r => by
   rw [List.reverse_cons, List.reverse_cons]
   exact ReadsAll.append r (.cons r1 .nil)) r
theorem readsAll_take {h : Heap} (k : Nat) {vs : List Value} {xs : List PyData} {as : List Addr} (r : ReadsAll h vs xs as) : ∃ bs, ReadsAll h (vs.take k) (xs.take k) bs :=
 ra_ind (C := fun vs xs => ∀ k, ∃ bs, ReadsAll h (vs.take k) (xs.take k) bs) (fun k => ⟨_, by rw [List.take_nil, List.take_nil]; exact .nil⟩) (fun _ _ _ _ _ _ r1 _ ih k => by
   cases k with
   | zero => exact ⟨_, .nil⟩
   | succ k => exact (ih k).elim fun _ q => ⟨_, .cons r1 q⟩) r k
noncomputable abbrev sliceObj (a b c : Value) : Obj := { cls := .type "slice", data := .fields #[a, b, c] }
theorem Inv.push (I : Inv prog w base G θ s μ) (o : Obj) : Inv prog w base G θ { s with heap := s.heap.push o } μ :=
 I.grow (fun b x e => Heap.get?_push_of_some _ e)
theorem Ext.push (I : Inv prog w base G θ s μ) (o : Obj) : Ext [] G θ s G θ { s with heap := s.heap.push o } :=
 Ext.grow (t := s.toks) (fun b x e => Heap.get?_push_of_some _ e)
theorem smallLen_of {l : List PyData} (h : smallLen l = true) : l.length <= 100000 := of_decide_eq_true h
theorem isN_eq {o : Option V} (h : isN o = true) : o = none := Option.isNone_iff_eq_none.mp h
theorem isI_eq {n : Int} {o : Option V} (h : isI n o = true) : o = some (.d (.int n)) := by
 unfold isI at h
 cases hq : (o.bind datOf).bind intOf with
 | none => rw [hq] at h; exact no_ft h
 | some i =>
   rw [hq] at h
   exact bind1 hq fun x h1 h2 => bind1 h1 fun v h3 h4 => by rw [h3, of_dat h4, of_intD h2, beq_iff_eq.mp h]
theorem ReadsAll.drop1 {h : Heap} {vs : List Value} {xs : List PyData} {as : List Addr} (r : ReadsAll h vs xs as) : ∃ bs, ReadsAll h (vs.drop 1) (xs.drop 1) bs := by
 cases xs with
 | nil => exact of_nil r fun e => e ▸ ⟨_, .nil⟩
 | cons x xs => exact of_cons r fun v vs a b e _ r2 => e ▸ ⟨_, r2⟩
noncomputable def OptRV (prog : Program) (w : World) (G : Heap) (θ : List Addr) (a : Value) (o : Option V) : Prop := match o with
 | none => a = .none
 | some x => RV prog w G θ a x
theorem opt_int {C : Prop} {a : Value} {o : Option V} {n : Int} (h : OptRV prog w G θ a o) (e : isI n o = true) (k : ∀ t, a = .int n t -> C) : C := by
 rw [isI_eq e] at h
 exact (RV.data h).elim fun _ r => of_int r k
theorem opt_none {a : Value} {o : Option V} (h : OptRV prog w G θ a o) (e : isN o = true) : a = .none := by
 rw [isN_eq e] at h; exact h
section
variable {value slice : Expr} {o : Value} {l : List PyData} {as : List Addr} {t : Tok}
theorem sl_tup (I : Inv prog w base G θ s μ) (r1 : Reads G o (.tuple l) as) (hk : 1 <= l.length) (hs : l.length <= 100000) :
   wpAny (model prog w) A (subscriptTail value slice o (.ref s.heap.objs.size)) (Post prog w base G θ s μ (.d (.tuple (l.drop 1)))) no { s with heap := s.heap.push (sliceObj (.int 1 t) .none .none) } := by
 have I1 := I.push (sliceObj (.int 1 t) .none .none)
 obtain ⟨ta, vs, rfl, ht, rr⟩ := tup_at I1 r1
 have ll : vs.size = l.length := ReadsAll.len rr
 obtain ⟨bs, rd⟩ := ReadsAll.drop1 rr
 refine s_tail ht.typeIs slot_tuple_getitem.lookup (getItem_tuple_from (a := 1) (u := t) ht (Heap.IsSliceOf.new ..) (Nat.le_refl _) (by omega) ?_ (by rw [sizeLine_is]; omega))
 exact Post.of (Ext.push I (sliceObj (.int 1 t) .none .none)) (Post.tuple I1 _ (by simpa using rd))
theorem take_str (x : Str) : Txt.slice x none (some 1) = ⟨(x.cps.toList.take 1).toArray⟩ := by
 show PySem.StrLaws.sliceText x none (some 1) = _
 by_cases hx : 1 <= x.cps.toList.length
 · rw [PySem.StrLaws.sliceText_to ⟨by decide, by exact_mod_cast hx⟩]; rfl
 · have h0 : x.cps.toList = [] := List.length_eq_zero_iff.mp (Nat.lt_one_iff.mp (Nat.lt_of_not_le hx))
   have h1 : x = ⟨#[]⟩ := by
     obtain ⟨cps⟩ := x
     exact congrArg Str.mk (Array.toList_inj.mp h0)
   subst h1
   decide
theorem sl_str {x : Str} {u : Tok} (I : Inv prog w base G θ s μ) (hk : x.cps.size <= 100000) :
   wpAny (model prog w) A (subscriptTail value slice (.str x u) (.ref s.heap.objs.size)) (Post prog w base G θ s μ (.d (.str ⟨(x.cps.toList.take 1).toArray⟩))) no { s with heap := s.heap.push (sliceObj .none (.int 1 t) .none) } := by
 refine s_tail (typeIs_str _ x u) F.slot_str_getitem.lookup (wpAny_getItem_str_slice (l := none) (u := some (1, t)) (st := none) ⟨_, Heap.get?_push_size _ rfl, rfl, rfl⟩ rfl
   (post_val_or_str ⟨Nat.le_trans (Txt.slice_le x _ _) (by rw [sizeLine_is]; exact Nat.le_trans hk (by decide)), fun t' k => ?_⟩))
 have fin : Post prog w base G θ s μ (.d (.str (Txt.slice x none (some 1)))) (.str (Txt.slice x none (some 1)) t') { s with heap := s.heap.push (sliceObj .none (.int 1 t) .none), toks := k } :=
   Post.of (Ext.push I (sliceObj .none (.int 1 t) .none)) (Post.toks (I.push (sliceObj .none (.int 1 t) .none)) k (.d (.str _ _)))
 rw [<- take_str x]
 exact fin
theorem sl_take (I : Inv prog w base G θ s μ) (r1 : Reads G o (.list l) as) (hs : l.length <= 100000) :
   wpAny (model prog w) A (subscriptTail value slice o (.ref s.heap.objs.size)) (Post prog w base G θ s μ (.d (.list (l.take 40)))) no { s with heap := s.heap.push (sliceObj .none (.int 40 t) .none) } := by
 have I1 := I.push (sliceObj .none (.int 40 t) .none)
 obtain ⟨la, vs, _, rfl, hl, rr⟩ := list_at I1 r1
 have ll : vs.size = l.length := ReadsAll.len rr
 obtain ⟨bs, rd⟩ := readsAll_take 40 rr
 refine s_tail hl.typeIs list_getitem_lookup (wpAny_getItem_list_slice hl (Heap.IsSliceOf.new ..) .none (.int 40 t) .none (by simp) ?_ (by rw [sizeLine_is]; omega))
 have e : slicePick vs none (some 40) none = (vs.toList.take 40).toArray := by
   rw [kmk_pick_nat vs (a := 0) (b := min 40 vs.size) ?_]
   · rw [List.drop_zero, Nat.sub_zero]
     have := kmk_take_min vs.toList 40
     rw [Array.length_toList] at this
     rw [this]
   · simp only [sliceBounds, Option.getD_none, show (1 : Int) > 0 by decide, if_true, if_neg (show ¬ ((40 : Int) < 0) by decide)]
     congr 1
     congr 1
     omega
 rw [e]
 exact Post.of (Ext.push I (sliceObj .none (.int 40 t) .none)) (Post.list I1 _ (by simpa using rd))
theorem sl_rev (I : Inv prog w base G θ s μ) (r1 : Reads G o (.list l) as) (hs : l.length <= 100000) :
   wpAny (model prog w) A (subscriptTail value slice o (.ref s.heap.objs.size)) (Post prog w base G θ s μ (.d (.list l.reverse))) no { s with heap := s.heap.push (sliceObj .none .none (.int (-1) t)) } := by
 have I1 := I.push (sliceObj .none .none (.int (-1) t))
 obtain ⟨la, vs, _, rfl, hl, rr⟩ := list_at I1 r1
 have ll : vs.size = l.length := ReadsAll.len rr
 obtain ⟨bs, rd⟩ := readsAll_rev rr
 refine s_tail hl.typeIs list_getitem_lookup (wpAny_getItem_list_slice hl (Heap.IsSliceOf.new ..) .none .none (.int (-1) t) (by simp) ?_ (by rw [sizeLine_is]; omega))
 rw [krv_pick]
 exact Post.of (Ext.push I (sliceObj .none .none (.int (-1) t))) (Post.list I1 _ (by simpa using rd))
end
theorem s_slice {value slice : Expr} {o a b c : Value} {O X : V} {lo hi st : Option V} (I : Inv prog w base G θ s μ) (ro : RV prog w G θ o O)
   (ra : OptRV prog w G θ a lo) (rb : OptRV prog w G θ b hi) (rc : OptRV prog w G θ c st) (h : sliceM O lo hi st = some X) :
   wpAny (model prog w) A (subscriptTail value slice o (.ref s.heap.objs.size)) (Post prog w base G θ s μ X) no { s with heap := s.heap.push (sliceObj a b c) } := by
 refine bind1 h fun x hx h => (of_dat hx ▸ ro).data.elim fun as r1 => ?_
 clear hx ro
 cases x with
 | tuple l => exact if_some h fun hk h => opt_int ra (and3 (and_t hk).1).1 fun t e1 => by rw [opt_none rb (and3 (and_t hk).1).2.1, opt_none rc (and3 (and_t hk).1).2.2, e1, <- Option.some.inj h]; exact sl_tup I r1 (of_decide_eq_true (and_t (and_t hk).2).1) (smallLen_of (and_t (and_t hk).2).2)
 | str x => exact if_some h fun hk h => opt_int rb (and3 (and_t hk).1).2.1 fun t e1 => of_str r1 fun u e2 => by rw [opt_none ra (and3 (and_t hk).1).1, opt_none rc (and3 (and_t hk).1).2.2, e1, e2, <- Option.some.inj h]; exact sl_str I (of_decide_eq_true (and_t hk).2)
 | list l =>
   refine if_or h (fun hk h => ?_) fun _ h => if_some h fun hk h => ?_
   · exact opt_int rb (and3 (and_t hk).1).2.1 fun t e1 => by rw [opt_none ra (and3 (and_t hk).1).1, opt_none rc (and3 (and_t hk).1).2.2, e1, <- Option.some.inj h]; exact sl_take I r1 (smallLen_of (and_t hk).2)
   · exact opt_int rc (and3 (and_t hk).1).2.2 fun t e1 => by rw [opt_none ra (and3 (and_t hk).1).1, opt_none rb (and3 (and_t hk).1).2.1, e1, <- Option.some.inj h]; exact sl_rev I r1 (smallLen_of (and_t hk).2)
 | _ => exact no_some h
end
end Mine
end
section
namespace Mine
open PySem PySem.W PyProof.Rows PySem.Spec
open scoped Classical
section
variable {P : Par} {prog : Program} {w : World} {base G : Heap} {θ : List Addr} {s : Shared} {μ μ' : Sto} {A : Around} {n : Nat} {r : Rec} {env : Env} {fm : Fm}
theorem Inv.gnone' (I : Inv prog w base G θ s μ) {a : Addr} (l : s.heap.get? a = none) : G.get? a = none := by
 cases e : G.get? a with
 | none => rfl
 | some o => rw [I.sub _ _ e] at l; exact some_no l
theorem Ext.know' {a : Addr} {o : Obj} (l : s.heap.get? a = none) (hn : G.get? a = none) {h : Heap} {t : Nat} (hk : ∀ b o, s.heap.get? b = some o -> h.get? b = some o) :
   Ext [] G θ s (plus G a o) θ { s with heap := h, toks := t } :=
 ⟨sub_plus hn, List.prefix_refl _, ⟨_, _, rfl⟩, fun b _ _ o e => hk b o e, fun b o e => ⟨o, hk b o e⟩, fun b ob x hb _ e => by
   rw [plus_other (by rintro rfl; rw [l] at hb; exact no_some hb)] at e; exact e, fun _ q _ _ => q⟩
theorem Post.fresh (I : Inv prog w base G θ s μ) {h' : Heap} {a : Addr} {o : Obj} {V : V} (t : Nat) (hk : ∀ b o, s.heap.get? b = some o -> h'.get? b = some o)
   (ha : s.heap.get? a = none) (hp : Plain o) (ho : h'.get? a = some o) (hr : RV prog w (plus G a o) θ (.ref a) V) : Post prog w base G θ s μ V (.ref a) { s with heap := h', toks := t } := by
 have I' : Inv prog w base G θ { s with heap := h', toks := t } μ := I.grow hk
 exact ⟨plus G a o, θ, Ext.know' ha (I.gnone' ha) hk, I'.know hp ho (fun q => by obtain ⟨x, e⟩ := I.live _ q; rw [ha] at e; exact no_some e) (I.gnone' ha), hr⟩
theorem none_above {h h' : Heap} (hk : ∀ b o, h.get? b = some o -> h'.get? b = some o) {a : Addr} (ha : h'.objs.size <= a) : h.get? a = none := by
 cases e : h.get? a with
 | none => rfl
 | some o => exact absurd (Heap.lt_size (hk _ _ e)) (Nat.not_lt.mpr ha)
theorem len_tabH {K : Type} [DecidableEq K] {knd : HeapKind prog w K} {enc : K -> PyData} {d : Addr} {l : List (PyData × PyData)} {Q : Value -> Shared -> Prop} {E : Value -> Shared -> Prop}
   (T : TabAtH knd enc s.heap d l) (hfit : l.length <= 100000) (h : Q (.int l.length (s.toks + 1)) { s with toks := s.toks + 1 + 1 }) : wpAny (model prog w) A (call (.builtin "len") [.ref d]) Q E s := by
 obtain ⟨hd, xs, ⟨o, es, ep, ho, hx, hdat, hes, _, _⟩, hf⟩ := T
 have hT : s.TypeIs (.ref d) "dict" := ⟨o, ho, hx.1⟩
 have hsz : es.size = l.length := by
   have h2 : es.toList.length = xs.length := by rw [hes, List.length_map]
   exact (h2.trans (List.length_map (as := xs) _).symm).trans hf.length.symm
 refine Calls.call_function_entry kind_len plain_len entry_len (args_len1 _) ?_
 unfold Builtin.«len»
 refine wpAny_bind (m := oneArg "len" _) (wpAny_pure ?_)
 refine wpAny_bind (m := callSpecial? (.ref d) (Str.ofString "__len__")) (wpAny_callSpecial?_slot (name := Str.ofString "__len__") hT F.slot_dict_len
   (wpAny_call_entry F.slot_dict_len hT F.entry_dict_len ?_ (F.args_dict_len_1 _)))
 · show wpAny _ _ (dictSize d >>= _) _ _ s
   unfold dictSize
   refine wpAny_bind (wpAny_bind (wpAny_dictEntries ho hdat (wpAny_pure ?_)))
   show wpAny _ _ (Builtin.Dict.pendingCount d >>= _) _ _ s
   refine wpAny_bind (wpAny_pendingCount_other hd ?_)
   refine wpAny_bind (wpAny_mkInt (wpAny_pure ⟨_, rfl, ?_⟩))
   rw [Nat.add_zero, hsz]
   refine wpAny_bind (wpAny_holding (wpAny_pure ?_))
   refine wpAny_bind (wpAny_letGo ?_)
   show wpAny _ _ (if ((l.length : Nat) : Int) < 0 then _ else _) _ _ _
   rw [if_neg (by omega)]
   show wpAny _ _ (if ((l.length : Nat) : Int) ≥ 2 ^ 63 then _ else _) _ _ _
   rw [if_neg (by omega)]
   exact wpAny_bind (wpAny_mkInt (wpAny_pure ⟨_, rfl, h⟩))
theorem sumD_ints {l : List PyData} : ∀ {k : Int}, sumD l = some k -> ∃ ns : List Int, l = ns.map .int /\ k = ns.sum := by
 induction l with
 | nil => exact fun h => ⟨[], rfl, (Option.some.inj h).symm⟩
 | cons x r ih =>
   exact fun h => bind1 h fun i hi h => bind1 h fun q hq h => if_some h fun _ h => (ih hq).elim fun ns e => ⟨i :: ns, by rw [of_intD hi, e.1]; rfl, by rw [<- Option.some.inj h, e.2, List.sum_cons]⟩
theorem readsAll_ints {h : Heap} {ns : List Int} : ∀ {vs : List Value} {as : List Addr}, ReadsAll h vs (ns.map .int) as -> IntsAre vs ns := by
 induction ns with
 | nil => exact fun r => of_nil r fun e => e ▸ .nil
 | cons n ns ih => exact fun r => of_cons r fun v vs a b e r1 r2 => of_int r1 fun t e2 => e ▸ e2 ▸ .cons _ _ (ih r2)
theorem b_sum {l : List PyData} {v : Value} {as : List Addr} {k : Int} (hh : A.handled = none) (I : Inv prog w base G θ s μ) (r1 : Reads G v (.list l) as) (hk : sumD l = some k) :
   wpAny (model prog w) A (call (.builtin "sum") [v]) (Post prog w base G θ s μ (.d (.int k))) no s := by
 obtain ⟨la, vs, _, rfl, hl, rr⟩ := list_at I r1
 obtain ⟨ns, rfl, rfl⟩ := sumD_ints hk
 have hi := readsAll_ints rr
 obtain ⟨xs, hx⟩ := hi.allInts.items
 have hv : vs = intItems xs := by simpa using hx
 subst hv
 refine sum_intListG hh hl fun h' tk t' hkp => ?_
 rw [preSum_eq, List.take_of_length_le (by simp), <- nums_intItems, hi.numsOf]
 exact ⟨G, θ, Ext.grow hkp, I.grow hkp, .d (.int _ _)⟩
theorem sort_perm {a b : Str} {ss : List Str} (hp : ss.Perm [a, b]) (hs : sortedS ss = true) : ss = if decide (b.cps.toList < a.cps.toList) then [b, a] else [a, b] := by
 have h2 : ss = [a, b] \/ ss = [b, a] := by
   have hl := hp.length_eq
   cases ss with
   | nil => cases hl
   | cons x ss =>
   cases ss with
   | nil => cases hl
   | cons y ss =>
   cases ss with
   | cons _ _ => cases hl
   | nil =>
     rcases List.mem_cons.mp (hp.mem_iff.mp List.mem_cons_self) with e | hx
     · subst e
       exact .inl (congrArg (x :: ·) (List.perm_singleton.mp ((List.perm_cons x).mp hp)))
     · obtain rfl := List.mem_singleton.mp hx
       exact .inr (congrArg (x :: ·) (List.perm_singleton.mp ((List.perm_cons x).mp (hp.trans (List.Perm.swap x a [])))))
 rcases h2 with rfl | rfl
 · have : ltCps b.cps.toList a.cps.toList = false := by simpa [sortedS, risingS] using hs
   rw [ltCps_eq] at this
   rw [this]; rfl
 · have h1 : ltCps a.cps.toList b.cps.toList = false := by simpa [sortedS, risingS] using hs
   rw [ltCps_eq] at h1
   have h1' : ¬ a.cps.toList < b.cps.toList := by simpa using h1
   by_cases h : b.cps.toList < a.cps.toList
   · rw [if_pos (by simpa using h)]
   · rw [if_neg (by simpa using h)]
     have e : a.cps.toList = b.cps.toList := List.le_antisymm h h1'
     have : a = b := by
       obtain ⟨⟨x⟩⟩ := a
       obtain ⟨⟨y⟩⟩ := b
       simp only at e
       subst e; rfl
     rw [this]
theorem strsAre_reads {h : Heap} {vs : List Value} {ss : List Str} (r : StrsAre vs ss) : ∃ as, ReadsAll h vs (ss.map .str) as := by
 induction r with
 | nil => exact ⟨_, .nil⟩
 | cons y t _ ih => exact ih.elim fun _ q => ⟨_, .cons (.str y t) q⟩
theorem sort2_keys {l : List (PyData × PyData)} {ys : List PyData} (h : sort2 l = some ys) : ∃ ks : List Str, l.map (·.1) = ks.map .str /\ ks.length <= 2 /\ strKeys l = true /\
   ∀ ss : List Str, ss.Perm ks -> sortedS ss = true -> ys = ss.map .str := by
 cases l with
 | nil => exact ⟨[], rfl, Nat.zero_le _, rfl, fun ss hp _ => by rw [List.perm_nil.mp hp, <- Option.some.inj h]; rfl⟩
 | cons p l =>
   refine bind1 h fun a ha h => ?_
   have e1 := of_strD ha
   have k1 : isStrD p.1 = true := by rw [e1]; rfl
   cases l with
   | nil => exact ⟨[a], by rw [List.map_cons, e1]; rfl, Nat.le_succ _, Bool.and_eq_true_iff.mpr ⟨k1, rfl⟩, fun ss hp _ => by rw [List.perm_singleton.mp hp, <- Option.some.inj h]; rfl⟩
   | cons q l =>
     refine bind1 h fun b hb h => if_some h fun hl h => ?_
     have e2 := of_strD hb
     have k2 : isStrD q.1 = true := by rw [e2]; rfl
     obtain rfl := List.isEmpty_iff.mp hl
     refine ⟨[a, b], by rw [List.map_cons, List.map_cons, e1, e2]; rfl, Nat.le_refl _, Bool.and_eq_true_iff.mpr ⟨k1, Bool.and_eq_true_iff.mpr ⟨k2, rfl⟩⟩, fun ss hp hs => ?_⟩
     rw [sort_perm hp hs, <- Option.some.inj h]
     unfold ord2
     by_cases hc : decide (b.cps.toList < a.cps.toList) = true
     · rw [if_pos hc, if_pos hc]; rfl
     · rw [if_neg hc, if_neg hc]; rfl
theorem flat_keys {kvs : List (Str × Value)} {l : List (PyData × PyData)} (hf : PyProof.V.FlatPairs PyData.str kvs l) : l.map (·.1) = kvs.map fun p => PyData.str p.1 := by
 induction hf with
 | nil => rfl
 | cons _ _ ih => exact congrArg (_ :: ·) ih
theorem strsAre_keys {kvs : List (Str × Value)} : ∀ {acc : List Value}, acc.length = kvs.length -> (∀ (j : Nat) (v : Value), acc[j]? = some v -> ∃ k x, kvs[j]? = some (k, x) /\ (PySem.strKind prog w).is k v = true) -> StrsAre acc (kvs.map (·.1)) := by
 induction kvs with
 | nil => intro acc hl _; have : acc = [] := List.length_eq_zero_iff.mp (by simpa using hl); subst this; exact .nil
 | cons p r ih =>
   intro acc hl h
   cases acc with
   | nil => simp at hl
   | cons v acc =>
     obtain ⟨k, x, hk, hv⟩ := h 0 v rfl
     simp only [List.getElem?_cons_zero, Option.some.injEq] at hk
     subst hk
     obtain ⟨t, rfl⟩ := Value.isStrOf_shape hv
     exact .cons k t (ih (by simpa using hl) fun j v hj => h (j + 1) v (by simpa using hj))
theorem call_list_sort {vs : List Value} {ss : List Str} {D : Addr} {Q : Value -> Shared -> Prop} {E : Value -> Shared -> Prop} (ho : s.heap.get? D = some (seqObj "list" vs.toArray 0)) (hS : StrsAre vs ss) (h64 : vs.length < 64)
   (h : ∀ (out : Array Value) (ss' : List Str), StrsAre out.toList ss' -> ss'.Perm ss -> sortedS ss' = true -> Q .none { s with heap := sortedHeap s.heap D vs out }) :
   wpAny (model prog w) A (call (.builtin "list.sort") [.ref D]) Q E s :=
 wpAny_call_entry slot_list_sort ⟨_, ho, rfl⟩ entry_list_sort (list_sort_treeK strKind_oneLt ho hS.keysOf (fun v₁ v₂ rest e => keyKind_strs (by rw [<- e]; exact hS)) h64 fun st' hp hs => by
   obtain ⟨ss', h1, h2, h3⟩ := sorted_out_str hS hp hs
   exact ⟨_, rfl, h _ ss' h1 h2 h3⟩) (args_list_sort _)
theorem b_sorted {l : List (PyData × PyData)} {d : Addr} {o : Obj} {ys : List PyData} (hh : A.handled = none) (I : Inv prog w base G θ s μ) (ho : s.heap.get? d = some o) (D : DictObj prog w G o l) (lo : (d == sysModules) = false) (hk : sort2 l = some ys) :
   wpAny (model prog w) A (call (.builtin "sorted") [.ref d]) (Post prog w base G θ s μ (.d (.list ys))) no s := by
 obtain ⟨ks, hks, hlen, hstr, hys⟩ := sort2_keys hk
 obtain ⟨kvs, hD, hf⟩ := D.1 hstr
 have hDO : s.heap.DictOf (PySem.strKind prog w) d kvs := Heap.dictOf_iff.mpr ⟨o, ho, hD⟩
 obtain ⟨ep, hat⟩ := hDO.dictAt
 have hkk : kvs.map (·.1) = ks := by
   have h1 := flat_keys hf
   rw [hks] at h1
   have : (kvs.map (·.1)).map PyData.str = ks.map .str := by rw [List.map_map]; exact h1.symm
   exact List.map_inj_right (fun a b e => by cases e; rfl) |>.mp this
 have hn : kvs.length = ks.length := by rw [<- hkk]; simp
 refine Calls.call_function_entry kind_sorted plain_sorted entry_sorted (args_sorted1 _) ?_
 unfold Builtin.«sorted»
 refine wpAny_bind (m := checkCount "sorted" 1 1 _) (wpAny_pure ?_)
 refine wpAny_bind (kdu_collect (A := A.in1) (kdl_dict (knd := PySem.strKind prog w) (kvs := kvs) (ep := ep) lo) hh hat (by rw [sizeLine_is]; omega) fun h' tk acc hkp hacc => ?_)
 have hl : acc.toList.length = kvs.length := by rw [Array.length_toList]; exact hacc.1
 have hS : StrsAre acc.toList (kvs.map (·.1)) := strsAre_keys (prog := prog) (w := w) hl fun j v e => hacc.2 j v (by rw [<- Array.getElem?_toList]; exact e)
 refine wpAny_bind (wpAny_newList ?_ (by rw [sizeLine_is]; omega))
 have hoL : (h'.push (seqObj "list" acc.toList.toArray 0)).get? h'.objs.size = some (seqObj "list" acc.toList.toArray 0) := Heap.get?_push_size _ rfl
 refine wpAny_bind (wpAny_holding (call_list_sort (ss := kvs.map (·.1)) hoL hS (by omega) fun out ss' a1 a2 a3 => ?_))
 refine wpAny_pure ⟨_, rfl, ?_⟩
 obtain ⟨e, he⟩ := sortedHeap_at (out := out) hoL
 have hk' : ∀ b o, s.heap.get? b = some o -> (sortedHeap (h'.push (seqObj "list" acc.toList.toArray 0)) h'.objs.size acc.toList out).get? b = some o := fun b o e => by
   have e1 := hkp b o e
   have hlt := Heap.lt_size e1
   rw [sortedHeap_old (Nat.ne_of_lt hlt) (by rw [size_push']; exact Nat.lt_succ_of_lt hlt)]
   exact Heap.get?_push_of_some _ e1
 have hge : s.heap.get? h'.objs.size = none := none_above hkp (Nat.le_refl _)
 rw [hkk] at a2
 rw [hys ss' a2 a3]
 obtain ⟨as, hra⟩ := strsAre_reads (h := G) a1
 exact Post.fresh I tk hk' hge (fun _ _ => ⟨rfl, rfl⟩) he (.d (.list (plus_self rfl) rfl rfl (ReadsAll.keeps (sub_plus (I.gnone' hge)) hra)))
theorem b_tuple {l : List PyData} {v : Value} {as : List Addr} (I : Inv prog w base G θ s μ) (r1 : Reads G v (.list l) as) (hl : smallLen l = true) :
   wpAny (model prog w) A (call (.type "tuple") [v]) (Post prog w base G θ s μ (.d (.tuple l))) no s := by
 obtain ⟨la, vs, bs, rfl, hL, rr⟩ := list_at I r1
 have ll := ReadsAll.len rr
 have hs := smallLen_of hl
 simp only [Array.length_toList] at ll
 refine call_tuple_list hL (fun h' hk => ?_) (by rw [sizeLine_is]; omega)
 have hge : s.heap.get? h'.objs.size = none := none_above hk (Nat.le_refl _)
 exact Post.fresh I s.toks (fun b o e => Heap.get?_push_of_some _ (hk b o e)) hge (fun _ _ => ⟨rfl, rfl⟩) (Heap.get?_push_size _ rfl)
   (.d (.tuple (plus_self rfl) rfl rfl (ReadsAll.keeps (sub_plus (I.gnone' hge)) rr)))
theorem b_dict {i : Nat} {a : Addr} {l : List (PyData × PyData)} (I : Inv prog w base G θ s μ) (ha : θ[i]? = some a) (hm : μ[i]? = some (.dict l)) (hs : strKeys l = true) (hl : l.length <= 1000) (hb : sysModules < s.heap.objs.size) :
   wpAny (model prog w) A (call (.type "dict") [.ref a]) (Post prog w base G θ s μ (.dict l)) no s := by
 obtain ⟨hg, o, ho, D, lo⟩ := I.rep i a _ ha hm
 obtain ⟨kvs, hD, hf⟩ := D.1 hs
 have hDO : s.heap.DictOf (PySem.strKind prog w) a kvs := Heap.dictOf_iff.mpr ⟨o, ho, hD⟩
 have hlen := hf.length
 refine kt_call_dict lo hDO (by rw [sizeLine_is]; omega) fun h' hm' hsb => ?_
 obtain ⟨o', ho', hd'⟩ := Heap.dictOf_iff.mp hm'
 have hge : s.heap.get? s.heap.objs.size = none := none_of_ge (Nat.le_refl _)
 have hex : o'.ExactDict := hd'.elim fun _ q => q.elim fun _ q => q.1
 refine Post.fresh I s.toks (fun b x e => (hsb.2 b (Nat.ne_of_lt (Heap.lt_size e))).trans (Heap.get?_push_of_some _ e)) hge (fun _ _ => hex.2) ho'
   (.dict (plus_self (not_freed ho')) ⟨fun _ => ⟨kvs, hd', hf⟩, fun ht => ?_, hex⟩ (beq_eq_false_iff_ne.mpr (Nat.ne_of_gt hb)))
 have hnil : l = [] := by
   cases l with
   | nil => rfl
   | cons p r =>
     obtain ⟨_, e1⟩ := is_str (and_t hs).1
     obtain ⟨_, e2⟩ := is_tup (and_t ht).1
     exact nomatch e1.symm.trans e2
 subst hnil
 have hk : kvs = [] := List.length_eq_zero_iff.mp hlen.symm
 subst hk
 obtain ⟨es, ep, hc, hdat, hp, hn⟩ := hd'
 refine ⟨es, ep, [], hc, hdat, ?_, by simp, by simp, .nil⟩
 have := hn.1.length
 simpa using this
theorem b_len {l : List PyData} {x : PyData} {v : Value} {as : List Addr} (I : Inv prog w base G θ s μ) (r1 : Reads G v x as) (hx : seqD x = some l) (hl : l.length <= 100000) :
   wpAny (model prog w) A (call (.builtin "len") [v]) (Post prog w base G θ s μ (.d (.int l.length))) no s := by
 rcases of_seqD hx with e | e
 · obtain ⟨ta, vs, _, rfl, ht, rr⟩ := list_at I (e ▸ r1)
   have ll : vs.size = l.length := ReadsAll.len rr
   rw [<- ll]
   exact Calls.call_len_list ht (by omega) (Post.toks I _ (.d (.int _ _)))
 · obtain ⟨ta, vs, rfl, ht, rr⟩ := tup_at I (e ▸ r1)
   have ll : vs.size = l.length := ReadsAll.len rr
   rw [<- ll]
   exact len_tuple ht (by omega) (Post.toks I _ (.d (.int _ _)))
section
variable {v : Value} {X V : V}
theorem s_len (I : Inv prog w base G θ s μ) (r1 : RV prog w G θ v X) (h : bLen μ X = some (V, μ')) : wpAny (model prog w) A (call (.builtin "len") [v]) (Post prog w base G θ s μ' V) no s := by
 cases X with
 | d x => exact bind1 h fun l hl h => if_some h fun hk h => inj2 h fun e1 e2 => r1.data.elim fun as r => e1 ▸ e2 ▸ b_len I r hl (smallLen_of hk)
 | obj i => exact bind1 h fun l hl h => if_some h fun hk h => inj2 h fun e1 e2 => of_obj r1 fun a e e3 => (I.rep _ _ _ e3 (at_dict hl)).2.elim fun o q => e1 ▸ e2 ▸ e ▸ len_tabH ((q.2.1.2 (and_t hk).1).tab I.sub q.1 q.2.2) (of_decide_eq_true (and_t hk).2) (Post.toks I _ (.d (.int _ _)))
 | _ => exact no_some h
theorem s_sorted (hh : A.handled = none) (I : Inv prog w base G θ s μ) (r1 : RV prog w G θ v X) (h : bSorted μ X = some (V, μ')) : wpAny (model prog w) A (call (.builtin "sorted") [v]) (Post prog w base G θ s μ' V) no s :=
 bind1 h fun l hl h => bind1 h fun ys hy h => inj2 h fun e1 e2 => (dict_at I r1 hl).elim fun d q => q.elim fun o q => e1 ▸ e2 ▸ q.1 ▸ b_sorted hh I q.2.1 q.2.2.1 q.2.2.2 hy
theorem s_builtin {f : Value} {vs : List Value} {Vs : List Mine.V} (B : BaseOk P prog w base) (hroom : Room A n) (I : Inv prog w base G θ s μ) (rv : RVs prog w G θ vs Vs) (h : builtinM μ f Vs = some (V, μ')) :
   wpAny (model prog w) A (call f vs) (Post prog w base G θ s μ' V) no s := by
 refine bind1 h fun X hX h => rvs_one (of_one hX ▸ rv) fun v e r1 => ?_
 subst e
 clear hX rv
 cases f with
 | builtin x =>
   refine if_or h (fun hx h => (beq_iff_eq.mp hx).symm ▸ s_len I r1 h) fun _ h => if_or h (fun hx h => ?_) fun _ h => if_some h fun hx h => (beq_iff_eq.mp hx).symm ▸ s_sorted hroom.hand I r1 h
   exact bind1 h fun l hl h => bind1 h fun k hk h => if_some h fun _ h => inj2 h fun e1 e2 => (d_list hl ▸ r1).data.elim fun as r => (beq_iff_eq.mp hx).symm ▸ e1 ▸ e2 ▸ b_sum hroom.hand I r hk
 | type x =>
   refine if_or h (fun hx h => ?_) fun _ h => if_or h (fun hx h => ?_) fun _ h => if_some h fun hx h => ?_
   · exact bind1 h fun i hi h => inj2 h fun e1 e2 => (d_int hi ▸ r1).data.elim fun as r => of_int r fun t e => (beq_iff_eq.mp hx).symm ▸ e1 ▸ e2 ▸ e ▸ call_int_int (Post.here I (.d (.int _ _)))
   · exact bind1 h fun l hl h => if_some h fun hk h => inj2 h fun e1 e2 => (d_list hl ▸ r1).data.elim fun as r => (beq_iff_eq.mp hx).symm ▸ e1 ▸ e2 ▸ b_tuple I r hk
   · exact bind1 h fun i hi h => bind1 h fun l hl h => if_some h fun hk h => inj2 h fun e1 e2 => of_obj (show RV prog w G θ v (.obj i) from of_objV hi ▸ r1) fun a e e3 => (beq_iff_eq.mp hx).symm ▸ e1 ▸ e2 ▸ e ▸ b_dict I e3 (at_dict hl) (and_t hk).1 (of_decide_eq_true (and_t hk).2) (B.big I)
 | _ => exact no_some h
end
end
end Mine
end
section
namespace Mine
open PySem PySem.W PyProof.Rows
section
variable {P : Par} {prog : Program} {w : World} {base G G' : Heap} {θ θ' : List Addr} {s s' : Shared} {μ μ' : Sto} {A : Around} {n : Nat} {r : Rec} {env : Env} {fm : Fm}
theorem Ext.fresh {W W' : List Addr} (x : Ext W G θ s G' θ' s') (h : ∀ b ∈ W, b ∈ W' \/ s.heap.get? b = none) : Ext W' G θ s G' θ' s' :=
 ⟨x.g, x.th, x.same, fun b hb hw o e => x.keep b hb (fun q => (h b q).elim hw fun l => by rw [l] at e; exact no_some e) o e, x.live, x.newG, x.newT⟩
theorem look_acc {x y : Str} {z : Addr} {acc : List (Str × Addr)} (h : x = y \/ (acc.lookup x).isSome = true) : (List.lookup x ((y, z) :: acc)).isSome = true := by
 rw [List.lookup_cons]
 cases hb : x == y with
 | true => rfl
 | false => exact h.resolve_left fun e => beq_eq_false_iff_ne.mp hb e
theorem cellsFrom_isSome {names : List (Str × NameKind)} : ∀ {k : Nat} {acc : List (Str × Addr)} {x : Str}, (names.lookup x = some .cell \/ (acc.lookup x).isSome = true) -> ((cellsFrom k names acc).lookup x).isSome = true := by
 induction names with
 | nil => exact fun h => h.elim (fun h => no_some h) id
 | cons p r ih =>
   obtain ⟨y, kind⟩ := p
   intro k acc x h
   unfold cellsFrom
   rcases h with h | h
   · rw [List.lookup_cons] at h
     cases hb : x == y with
     | true =>
       rw [hb] at h
       rw [show kind = .cell from Option.some.inj h, if_pos (by rfl)]
       exact ih (.inr (look_acc (.inl (beq_iff_eq.mp hb))))
     | false =>
       rw [hb] at h
       by_cases hc : (kind == .cell) = true
       · rw [if_pos hc]; exact ih (.inl h)
       · rw [if_neg hc]; exact ih (.inl h)
   · by_cases hc : (kind == .cell) = true
     · rw [if_pos hc]; exact ih (.inr (look_acc (.inr h)))
     · rw [if_neg hc]; exact ih (.inr h)
theorem cellsFrom_nodup {names : List (Str × NameKind)} : ∀ {k : Nat} {acc : List (Str × Addr)}, (names.map (·.1)).Nodup -> (acc.map (·.1)).Nodup -> (∀ x ∈ acc.map (·.1), x ∉ names.map (·.1)) -> ((cellsFrom k names acc).map (·.1)).Nodup := by
 induction names with
 | nil => exact fun _ h _ => h
 | cons p r ih =>
   obtain ⟨y, kind⟩ := p
   intro k acc hn ha hd
   have hn := List.nodup_cons.mp hn
   unfold cellsFrom
   have hd' : ∀ x ∈ acc.map (·.1), x ∉ r.map (·.1) := fun x hx q => hd x hx (List.mem_cons_of_mem _ q)
   by_cases hc : (kind == .cell) = true
   · rw [if_pos hc]
     exact ih hn.2 (List.nodup_cons.mpr ⟨fun q => hd y q (List.mem_cons_self ..), ha⟩) fun x hx => (List.mem_cons.mp hx).elim (fun e => e ▸ hn.1) (hd' x)
   · rw [if_neg hc]
     exact ih hn.2 ha hd'
theorem lookup_any {l : List (Str × Addr)} {y : Str} {c : Addr} : (y, c) ∈ l -> (l.map (·.1)).Nodup -> l.lookup y = some c := by
 induction l with
 | nil => exact fun h => nomatch h
 | cons p r ih =>
   obtain ⟨k, d⟩ := p
   intro h hn
   have hn := List.nodup_cons.mp hn
   rw [List.lookup_cons]
   rcases List.mem_cons.mp h with e | h
   · rw [show y = k from congrArg Prod.fst e, show c = d from congrArg Prod.snd e, beq_self_eq_true]
   · rw [beq_eq_false_iff_ne.mpr fun e : y = k => hn.1 (e ▸ List.mem_map.mpr ⟨(y, c), h, rfl⟩)]; exact ih h hn.2
theorem zip_lookup_mem {ps : List Str} : ∀ {Vs : List V} {x : Str} {V : V}, (ps.zip Vs).lookup x = some V -> x ∈ ps := by
 induction ps with
 | nil => exact fun h => no_some h
 | cons p ps ih =>
   intro Vs x V h
   cases Vs with
   | nil => exact no_some h
   | cons W Vs =>
     rw [List.zip_cons_cons, List.lookup_cons] at h
     cases hb : x == p with
     | true => rw [beq_iff_eq.mp hb]; exact List.mem_cons_self
     | false => rw [hb] at h; exact List.mem_cons_of_mem _ (ih h)
theorem bindL_off {kindOf : Str -> Option NameKind} {x : Str} {ps : List Str} : ∀ {us : List Value} {m : Str -> Option Value}, x ∉ ps -> bindL kindOf (ps.zip us) m x = m x := by
 induction ps with
 | nil => exact fun _ => rfl
 | cons q ps ih =>
   intro us m hq
   cases us with
   | nil => rfl
   | cons u us =>
     rw [List.zip_cons_cons]
     unfold bindL
     rw [ih fun e => hq (List.mem_cons_of_mem _ e)]
     by_cases hk : kindOf q = some .local
     · rw [if_pos hk, if_neg fun e : x = q => hq (e ▸ List.mem_cons_self)]
     · rw [if_neg hk]
theorem bindC_off {kindOf : Str -> Option NameKind} {x : Str} {ps : List Str} : ∀ {us : List Value} {m : Str -> Option Value}, x ∉ ps -> bindC kindOf (ps.zip us) m x = m x := by
 induction ps with
 | nil => exact fun _ => rfl
 | cons q ps ih =>
   intro us m hq
   cases us with
   | nil => rfl
   | cons u us =>
     rw [List.zip_cons_cons]
     unfold bindC
     rw [ih fun e => hq (List.mem_cons_of_mem _ e)]
     by_cases hk : kindOf q = some .local
     · rw [if_pos hk]
     · rw [if_neg hk, if_neg fun e : x = q => hq (e ▸ List.mem_cons_self)]
theorem bind_get {kindOf : Str -> Option NameKind} {k : NameKind} (hk : k = .local \/ k = .cell) {x : Str} {V : V} (hx : kindOf x = some k) {ps : List Str} : ∀ {vs : List Value} {Vs : List Mine.V} {m : Str -> Option Value},
   RVs prog w G θ vs Vs -> distinct ps = true -> (ps.zip Vs).lookup x = some V ->
   ∃ v, (if k = .local then bindL kindOf (ps.zip vs) m x else bindC kindOf (ps.zip vs) m x) = some v /\ RV prog w G θ v V := by
 induction ps with
 | nil => exact fun _ _ h => no_some h
 | cons p ps ih =>
   intro vs Vs m rv hd h
   cases Vs with
   | nil => exact no_some h
   | cons W Vs =>
   refine rvs_cons rv fun v us e r rs => ?_
   subst e
   have hd := and_t (show (!ps.contains p && distinct ps) = true from hd)
   rw [List.zip_cons_cons, List.lookup_cons] at h
   rw [List.zip_cons_cons]
   cases hb : x == p with
   | true =>
     rw [hb] at h
     obtain rfl := beq_iff_eq.mp hb
     have hnm : x ∉ ps := fun q => no_ft ((not_t hd.1).symm.trans (List.contains_iff_mem.mpr q))
     refine ⟨v, ?_, Option.some.inj h ▸ r⟩
     rcases hk with rfl | rfl
     · rw [if_pos rfl]; unfold bindL; rw [bindL_off hnm, if_pos hx, if_pos rfl]
     · rw [if_neg (by decide)]; unfold bindC; rw [bindC_off hnm, if_neg (by rw [hx]; decide), if_pos rfl]
   | false =>
     rw [hb] at h
     by_cases hl : k = .local
     · have q := ih (m := if kindOf p = some .local then fun y => if y = p then some v else m y else m) rs hd.2 h
       rw [if_pos hl] at q ⊢
       exact q
     · have q := ih (m := if kindOf p = some .local then m else fun y => if y = p then some v else m y) rs hd.2 h
       rw [if_neg hl] at q ⊢
       exact q
theorem newEnv_none {scope : Scope} {L globals : Addr} {cells : List (Str × Addr)} {qual : Str} {func : Option Addr} {code : Value} {builtins : Addr} :
   newEnv scope L globals cells qual func code none builtins = { scope, locals := L, globals, cells, qual, func, code, frame := some L, builtins } := rfl
theorem FrameRep.enter {fi : FnI} {fd : FuncData} {a : Addr} {vs : List Value} {Vs : List V} {s₁ : Shared} (I : Inv prog w base G θ s μ) (rv : RVs prog w G θ vs Vs)
   (hsc : fd.scope = fi.sc) (hg : fd.globals = mainGlobals) (hb : fd.builtins = builtinsNs) (hk : fi.sc.kind = .function) (hd : distinct fi.params = true) (hl : vs.length = fi.params.length)
   (hpk : ∀ x ∈ fi.params, fi.sc.names.lookup x = some .local \/ fi.sc.names.lookup x = some .cell) (hcd : (fi.sc.names.lookup ("__classdict__" : Str)).isNone = true) (hnn : (fi.sc.names.map (·.1)).Nodup)
   (x : InCallC s (callEnvC fd s.heap.objs.size a).locals (bindL (callEnvC fd s.heap.objs.size a).kindOf (fi.params.zip vs) fun _ => none) (callEnvC fd s.heap.objs.size a).cells
       (bindC (callEnvC fd s.heap.objs.size a).kindOf (fi.params.zip vs) fun _ => none) s₁) :
   FrameRep prog w G θ s₁.heap (callEnvC fd s.heap.objs.size a) ⟨fi.sc, fi.params.zip Vs⟩ := by
 have hkind : ∀ y, (callEnvC fd s.heap.objs.size a).kindOf y = fi.sc.names.lookup y := fun y => by
   show fd.scope.names.lookup y = _; rw [hsc]
 have hcells : (callEnvC fd s.heap.objs.size a).cells = cellsFrom (s.heap.objs.size + 1) fi.sc.names [] := by
   show cellsFrom (s.heap.objs.size + 1) fd.scope.names [] = _; rw [hsc]
 have hcl : ∀ y c, (y, c) ∈ (callEnvC fd s.heap.objs.size a).cells -> s.heap.objs.size < c := fun y c h => x.above y c h
 have hlk : ∀ y c, (y, c) ∈ (callEnvC fd s.heap.objs.size a).cells -> (callEnvC fd s.heap.objs.size a).cells.lookup y = some c := fun y c h => lookup_any h (by rw [hcells]; exact cellsFrom_nodup hnn (by simp) (by simp))
 have noFree : ∀ y V, (fi.params.zip Vs).lookup y = some V -> fi.sc.names.lookup y = some .free -> False := fun y V h1 h2 => by
   rcases hpk y (zip_lookup_mem h1) with h | h <;> rw [h2] at h <;> cases h
 refine ⟨⟨?_, hg, hb, fun y h => by rw [hkind]; exact h, fun y h => by rw [hkind]; exact h, fun y h => by rw [hkind]; exact h, fun y h => ?_, ⟨_, x.toInCall.ns, fun y V h1 h2 => ?_⟩, fun y V h1 h2 => ?_, ⟨?_, ?_⟩, fun y c h => ⟨⟨?_, ?_⟩, ?_⟩⟩,
   hsc, fun y h => ?_, fun y c h => ⟨_, x.cell y c (hlk y c h)⟩, fun y z c h1 h2 => name_of_addr x.apart h1 h2, fun y c h => Nat.ne_of_gt (hcl y c h)⟩
 · show fd.scope.kind = _; rw [hsc]; exact hk
 · rw [hkind] at h
   simp only [beq_eq_false_iff_ne]
   rintro rfl
   rw [h] at hcd; exact no_ft hcd
 · obtain ⟨v, e, r⟩ := bind_get (kindOf := (callEnvC fd s.heap.objs.size a).kindOf) (m := fun _ => none) (.inl rfl) ((hkind y).trans h1) rv hd h2
   exact ⟨v, by simpa using e, r⟩
 · have h1' : fi.sc.names.lookup y = some .cell := by
     rcases h1 with h1 | h1
     · exact h1
     · exact (noFree y V h2 h1).elim
   obtain ⟨v, e, r⟩ := bind_get (kindOf := (callEnvC fd s.heap.objs.size a).kindOf) (m := fun _ => none) (.inr rfl) ((hkind y).trans h1') rv hd h2
   obtain ⟨c, hc⟩ := Option.isSome_iff_exists.mp (cellsFrom_isSome (k := s.heap.objs.size + 1) (acc := []) (.inl h1'))
   rw [<- hcells] at hc
   refine ⟨c, v, hc, ?_, r⟩
   have := x.cell y c hc
   rw [if_neg (by decide)] at e
   rw [e] at this
   exact this
 · exact fun q => Nat.lt_irrefl _ (I.lt _ q)
 · exact I.gnone (Nat.le_refl _)
 · exact fun q => Nat.lt_asymm (hcl y c h) (I.lt _ q)
 · exact I.gnone (Nat.le_of_lt (hcl y c h))
 · obtain ⟨o, ho, _⟩ := x.cell y c (hlk y c h); exact ⟨o, ho⟩
 · obtain ⟨c, hc⟩ := Option.isSome_iff_exists.mp (cellsFrom_isSome (k := s.heap.objs.size + 1) (acc := []) (.inl h))
   exact ⟨c, by rw [hcells]; exact hc⟩
theorem s_freeze {G θ} {s₂ : Shared} {V : V} {k : Nat} {v : Value} (I : Inv prog w base G θ s₂ μ) (rv : RV prog w G θ v V) : Post prog w base G θ s₂ (freeze k V μ).2 (freeze k V μ).1 v s₂ := by
 unfold freeze
 cases hV : objOf V with
 | none => exact Post.here I rv
 | some i =>
   obtain rfl := of_objV hV
   by_cases hk : k <= i
   · show Post prog w base G θ s₂ (if k <= i then (match μ[i]? with | some o => frz i o μ | none => (V.obj i, μ)) else (V.obj i, μ)).2 (if k <= i then (match μ[i]? with | some o => frz i o μ | none => (V.obj i, μ)) else (V.obj i, μ)).1 v s₂
     rw [if_pos hk]
     cases hm : μ[i]? with
     | none => exact Post.here I rv
     | some o =>
       refine of_obj rv fun a e1 e => ?_
       cases o with
       | list l =>
         obtain ⟨hg, o, vs, m, as, h1, h2, h3, ra, hn⟩ := I.rep i a _ e hm
         exact e1 ▸ ⟨plus G a o, θ, Ext.freeze (List.mem_of_getElem? e) hg, I.freeze (fun _ _ => hn) e hg h1, .d (.list (plus_self (not_freed h1)) h2 h3 (ReadsAll.keeps (sub_plus hg) ra))⟩
       | dict l =>
         obtain ⟨hg, o, h1, h2, h3⟩ := I.rep i a _ e hm
         exact e1 ▸ ⟨plus G a o, θ, Ext.freeze (List.mem_of_getElem? e) hg, I.freeze h2.plain e hg h1, .dict (plus_self (not_freed h1)) (h2.mono (sub_plus hg)) h3⟩
       | _ => exact Post.here I rv
   · show Post prog w base G θ s₂ (if k <= i then (match μ[i]? with | some o => frz i o μ | none => (V.obj i, μ)) else (V.obj i, μ)).2 (if k <= i then (match μ[i]? with | some o => frz i o μ | none => (V.obj i, μ)) else (V.obj i, μ)).1 v s₂
     rw [if_neg hk]; exact Post.here I rv
theorem s_codeFn {a : Addr} {fi : FnI} {vs : List Value} {Vs : List V} {V : V} (B : BaseOk P prog w base) (hx : SExs prog w base r n) (hroom : Room A (n + 1)) (I : Inv prog w base G θ s μ)
   (hfn : P.fn a = some fi) (rv : RVs prog w G θ vs Vs) (h : callF r fi Vs μ = some (V, μ')) :
   codeAny (model prog w) A (.call (.ref a) ⟨vs, []⟩) (fun q s' => ∃ v, q = .ok (.ret v) /\ Post prog w base G θ s μ' V v s') s := by
 refine (B.fns a fi hfn).elim fun o q => q.2.elim fun fd F => if_some h fun hlen h => bind3 h fun fl ρ' μ1 h1 h2 => ?_
 clear h hfn
 have hbs : Sub base s.heap := I.bs.trans I.sub
 have hl : vs.length = fi.params.length := rv.length.trans (beq_iff_eq.mp hlen).symm
 have hd := hroom.depth
 refine codeAny_call_cells (by omega) (hbs _ _ q.1) F.data (B.nolimit.keeps hbs) (F.code.keeps hbs) F.body (F.bind vs hl) F.clo (fun y hy => ?_) (fun s₁ x => ?_) (by rw [F.sc]; exact F.co) (by rw [F.sc]; exact F.gen) (by rw [F.sc]; exact F.kd)
 · rw [F.sc]
   exact (F.pk y.1 (List.of_mem_zip hy).1).imp id fun hq => ⟨hq, cellsFrom_isSome (.inl hq)⟩
 · refine x.done.elim fun h' d => d.elim fun tk d => ?_
   have hs1 := d.1
   subst hs1
   have e1 : Ext [] G θ s G θ { s with heap := h', toks := tk } := Ext.grow d.2
   refine wpAny_mono (hx (A.deeper (callEnvC fd s.heap.objs.size a)) G θ _ μ _ fi.sc _ fi.body fl ρ' μ1 hroom.deeper (I.grow d.2) (FrameRep.enter I rv F.sc F.gl F.bl F.kd F.dist hl F.pk F.cd F.nn x) h1) (fun f s' p => ?_) fun _ _ q => q.elim
   refine p.elim fun G2 p => p.elim fun t2 p => ?_
   have e3 : Ext [] G θ s G2 t2 s' := ((e1.weaken fun _ hb => nomatch hb).trans p.1).fresh fun b hb => .inr ((List.mem_cons.mp hb).elim (fun e => e ▸ none_of_ge (Nat.le_refl _)) fun hb =>
     (List.mem_map.mp hb).elim fun yc e => e.2 ▸ none_of_ge (Nat.le_of_lt (x.above yc.1 yc.2 e.1)))
   have hfl := p.2.2.2
   cases fl with
   | next =>
     obtain rfl : f = .next := hfl
     exact inj2 h2 fun e1 e2 => e1 ▸ e2 ▸ ⟨_, rfl, G2, t2, e3, p.2.1, .d .none⟩
   | ret V1 =>
     obtain ⟨v, rfl, rv2⟩ := hfl
     have h2 := Option.some.inj h2
     exact ⟨v, rfl, Post.of e3 ((congrArg (·.1) h2 : (freeze μ.length V1 μ1).1 = V) ▸ (congrArg (·.2) h2 : (freeze μ.length V1 μ1).2 = μ') ▸ s_freeze p.2.1 rv2)⟩
theorem s_callFn {a : Addr} {fi : FnI} {vs : List Value} {Vs : List V} {V : V} (B : BaseOk P prog w base) (hx : SExs prog w base r n) (hroom : Room A (n + 1)) (I : Inv prog w base G θ s μ)
   (hfn : P.fn a = some fi) (rv : RVs prog w G θ vs Vs) (h : callF r fi Vs μ = some (V, μ')) : wpAny (model prog w) A (call (.ref a) vs) (Post prog w base G θ s μ' V) no s :=
 wpAny_call (codeAny_mono (s_codeFn B hx hroom I hfn rv h) fun q s' z => z.elim fun v e => e.1 ▸ e.2)
end
end Mine
end
section
namespace Mine
open PySem PySem.W PyProof.Rows PySem.Spec
open scoped Classical
section
variable (P : Par) (prog : Program) (w : World) (base : Heap)
structure ClsOk : Prop where
 meth : ∀ {A : Around} {s : Shared} {Q : Value × List Value -> Shared -> Prop} {pl : Sem Bool} {C x dx : Addr} {name : Str} {f : Addr} {es : List DictEntry} {n : Nat}, P.meth C name = some f -> Sub base s.heap ->
   s.heap.get? x = some (instObj C dx) -> s.heap.get? dx = some (dictOf es n) -> getL name es = some none -> Q (.ref f, [.ref x]) s -> wpAny (model prog w) A (getMethod (.ref x) name pl) Q no s
 attr : ∀ {A : Around} {s : Shared} {Q : Value -> Shared -> Prop} {expr : Bool} {C x dx : Addr} {name : Str} {a : Addr} {es : List DictEntry} {n : Nat}, P.cls C = true -> (name == kRanks || name == kKnown || name == kWeights) = true -> Sub base s.heap ->
   s.heap.get? x = some (instObj C dx) -> s.heap.get? dx = some (dictOf es n) -> getL name es = some (some (.ref a)) -> Q (.ref a) { s with toks := s.toks + 1 } -> wpAny (model prog w) A (getAttr (.ref x) name expr) Q no s
 setattr : ∀ {A : Around} {s : Shared} {Q : Unit -> Shared -> Prop} {C x dx : Addr} {name : Str} {v : Value} {es : List DictEntry} {n : Nat}, P.cls C = true -> (name == kRanks || name == kKnown || name == kWeights) = true -> Sub base s.heap ->
   s.heap.get? x = some (instObj C dx) -> s.heap.get? dx = some (dictOf es n) -> getL name es = some none -> es.length <= 10 ->
   (∀ h' e n' t k, e.key = .str name t -> e.val = v -> h'.get? dx = some (dictOf (es ++ [e]) n') -> Heap.SameBut dx s.heap h' -> Q () { s with heap := h', toks := k }) -> wpAny (model prog w) A (setAttr (.ref x) name v) Q no s
 methFn : ∀ C name f, P.meth C name = some f -> (P.fn f).isSome = true
 ctor : ∀ {A : Around} {G : Heap} {θ : List Addr} {s : Shared} {μ μ' : Sto} {C : Addr} {h : Bool} {vs : List Value} {Vs : List V} {V : V}, Room A 100 -> Inv prog w base G θ s μ -> P.ctor C = some h -> RVs prog w G θ vs Vs -> ctorM h C Vs μ = some (V, μ') ->
   wpAny (model prog w) A (call (.ref C) vs) (Post prog w base G θ s μ' V) no s
end
section
variable {P : Par} {prog : Program} {w : World} {base G G' : Heap} {θ θ' : List Addr} {s s' : Shared} {μ μ' : Sto} {A : Around} {n : Nat} {r : Rec} {env : Env} {fm : Fm}
theorem attrs_get {es : List DictEntry} {l : List (Str × V)} (h : AttrsAre prog w G θ es l) (name : Str) :
   (∀ V, l.lookup name = some V -> ∃ v, getL name es = some (some v) /\ RV prog w G θ v V) /\ (l.lookup name = none -> getL name es = some none) := by
 induction h with
 | nil => exact ⟨(fun V e => nomatch e), fun _ => rfl⟩
 | @cons e m t V es l hk hr rest ih =>
   have hs : e.key.isStr name = (name == m) := by
     rw [hk]; show (m == name) = (name == m)
     exact Bool.eq_iff_iff.mpr ⟨fun q => by rw [beq_iff_eq.mp q]; exact beq_self_eq_true _, fun q => by rw [beq_iff_eq.mp q]; exact beq_self_eq_true _⟩
   have hr' : e.refKey = false := by unfold DictEntry.refKey; rw [hk]
   cases hb : name == m with
   | true =>
     have hg : getL name (e :: es) = some (some e.val) := by unfold getL; rw [List.find?_cons_of_pos (by rw [hs, hb])]
     refine ⟨fun W q => ?_, fun q => ?_⟩
     · rw [List.lookup_cons, hb] at q; (refine inj1 q ?_; clear q; rintro rfl); exact ⟨_, hg, hr⟩
     · rw [List.lookup_cons, hb] at q; cases q
   | false =>
     have hg : getL name (e :: es) = getL name es := by
       unfold getL
       rw [List.find?_cons_of_neg (by rw [hs, hb]; decide), List.any_cons, hr', Bool.false_or]
     rw [hg]
     refine ⟨fun W q => ih.1 W (by rw [List.lookup_cons, hb] at q; exact q), fun q => ih.2 (by rw [List.lookup_cons, hb] at q; exact q)⟩
theorem inst_at {C : Addr} {j : Nat} {l : List (Str × V)} {v : Value} (I : Inv prog w base G θ s μ) (rv : RV prog w G θ v (.inst C j)) (hm : μ[j]? = some (.attrs l)) :
   ∃ x dx es n, v = .ref x /\ s.heap.get? x = some (instObj C dx) /\ s.heap.get? dx = some (dictOf es n) /\ AttrsAre prog w G θ es l := by
 refine of_inst rv ?_; clear rv; rintro x dx rfl h1 h2
 obtain ⟨_, es, n, h3, h4⟩ := I.rep j dx _ h2 hm
 exact ⟨x, dx, es, n, rfl, I.sub _ _ h1, h3, h4⟩
theorem ref_of {v : Value} {u : V} (r : RV prog w G θ v u) (h : isRefV u = true) : ∃ a, v = .ref a := by
 cases u with
 | obj i => exact of_obj r fun a e _ => ⟨a, e⟩
 | dict l => exact of_dic r fun a _ e _ _ _ => ⟨a, e⟩
 | _ => exact no_ft h
theorem s_attr {v : Value} {OV X : V} {name : Str} {expr : Bool} (H : ClsOk P prog w base) (I : Inv prog w base G θ s μ) (rv : RV prog w G θ v OV) (h : attrM P μ OV name = some X) :
   wpAny (model prog w) A (getAttr v name expr) (Post prog w base G θ s μ X) no s := by
 refine bind1 h fun q hq h => bind1 h fun l hl h => bind1 h fun u hu h => if_some h fun hk h => inj1 h fun e => e ▸ ?_
 obtain ⟨x, dx, es, n, rfl, h1, h2, h3⟩ := inst_at I (of_instV hq ▸ rv) (at_attrs hl)
 obtain ⟨v, hg, hr⟩ := (attrs_get h3 name).1 _ hu
 obtain ⟨a, rfl⟩ := ref_of hr (and3 hk).2.2
 exact H.attr (and3 hk).1 (and3 hk).2.1 (I.bs.trans I.sub) h1 h2 hg (Post.toks I _ hr)
theorem strs_of {h : Heap} {l : List PyData} {vs : List Value} {as : List Addr} (r : ReadsAll h vs l as) : l.all isStrD = true -> ∃ ys, StrsAre vs ys /\ l = ys.map PyData.str :=
 ra_ind (C := fun vs l => l.all isStrD = true -> ∃ ys, StrsAre vs ys /\ l = ys.map PyData.str) (fun _ => ⟨[], .nil, rfl⟩)
   (fun v vs x xs a b r1 _ ih ha => (ih (and_t ha).2).elim fun ys q => (is_str (and_t ha).1).elim fun y e => of_str (e ▸ r1 : Reads h v (.str y) a) fun t e' => ⟨y :: ys, e' ▸ .cons _ _ q.1, e ▸ congrArg (_ :: ·) q.2⟩) r
theorem list_exact {v : Value} {xs : List PyData} {as : List Addr} (I : Inv prog w base G θ s μ) (h : Reads G v (.list xs) as) : ∃ a vs m bs, v = .ref a /\ s.heap.get? a = some (seqObj "list" vs m) /\ ReadsAll G vs.toList xs bs := by
 refine of_list h ?_; clear h; rintro a o vs m bs rfl h1 h2 h3 h4
 obtain ⟨c, d, dt, sl⟩ := o
 simp only at h2 h3
 subst h2 h3
 obtain ⟨p1, p2⟩ := I.plain _ _ h1 rfl ⟨_, _, rfl⟩
 simp only at p1 p2
 subst p1 p2
 exact ⟨a, vs, m, bs, rfl, I.sub _ _ h1, h4⟩
theorem mlist_exact {i : Nat} {a : Addr} {xs : List PyData} (I : Inv prog w base G θ s μ) (ha : θ[i]? = some a) (hm : μ[i]? = some (.list xs)) : ∃ vs m bs, s.heap.get? a = some (seqObj "list" vs m) /\ ReadsAll G vs.toList xs bs := by
 obtain ⟨_, o, vs, m, as, h1, h2, h3, ra, p1, p2⟩ := I.rep i a _ ha hm
 obtain ⟨c, d, dt, sl⟩ := o
 simp only at h2 h3 p1 p2
 subst h2 h3 p1 p2
 exact ⟨vs, m, as, h1, ra⟩
noncomputable def methB (name : Str) : Value := if name == ("get" : Str) then .builtin "dict.get" else if name == ("extend" : Str) then .builtin "list.extend" else .builtin "list.count"
theorem methB_ref {name : Str} {a : Addr} (h : methB name = .ref a) : False :=
 if_or h (fun _ h => nomatch h) fun _ h => if_or h (fun _ h => nomatch h) fun _ h => nomatch h
section
variable {v : Value} {OV : V} {name : Str} {pl : Sem Bool} {Q : Value × List Value -> Shared -> Prop}
theorem s_getI {q : Addr × Nat} (H : ClsOk P prog w base) (I : Inv prog w base G θ s μ) (rv : RV prog w G θ v OV) (hi : instOf OV = some q) (h : preI P μ q name = true)
   (hq : ∀ f, P.meth q.1 name = some f -> Q (.ref f, [v]) s) : wpAny (model prog w) A (getMethod v name pl) Q no s := by
 unfold preI at h
 cases hl : (μ[q.2]?).bind attrsO with
 | none => rw [hl] at h; exact no_ft h
 | some l =>
   rw [hl] at h
   have h : ((P.meth q.1 name).isSome && (l.lookup name).isNone) = true := h
   obtain ⟨x, dx, es, n, rfl, h1, h2, h3⟩ := inst_at I (of_instV hi ▸ rv) (at_attrs hl)
   obtain ⟨f, hf⟩ := Option.isSome_iff_exists.mp (and_t h).1
   exact H.meth hf (I.bs.trans I.sub) h1 h2 ((attrs_get h3 name).2 (Option.isNone_iff_eq_none.mp (and_t h).2)) (hq f hf)
theorem s_getB (I : Inv prog w base G θ s μ) (rv : RV prog w G θ v OV) (h : preB μ OV name = true) (hq : Q (methB name, [v]) s) : wpAny (model prog w) A (getMethod v name pl) Q no s := by
 refine if_or h (fun hn g => ?_) fun hn h => if_or h (fun hn g => ?_) fun hn h => if_or h (fun hn g => ?_) fun _ h => no_ft h
 · obtain rfl := beq_iff_eq.mp hn
   cases hd : dictOf? μ OV with
   | none => rw [hd] at g; exact no_ft g
   | some l =>
     rw [hd] at g
     obtain ⟨d, o, rfl, ho, D, lo⟩ := dict_at I rv hd
     exact getMethod_strTab_get ((D.1 g).tab ho lo) hq
 · obtain rfl := beq_iff_eq.mp hn
   obtain ⟨l, h⟩ := Option.isSome_iff_exists.mp g
   refine bind1 h fun i hi h => of_obj (of_objV hi ▸ rv) fun a e1 e => ?_
   obtain ⟨vs, m, bs, ho, ra⟩ := mlist_exact I e (at_list h)
   obtain rfl := e1
   exact getMethod_list_of PySem.F.slot_list_extend PySem.F.type_list_extend ⟨_, ho, rfl, _, rfl⟩ ⟨_, ho, rfl⟩ hq
 · obtain rfl := beq_iff_eq.mp hn
   obtain ⟨l, h⟩ := Option.isSome_iff_exists.mp g
   obtain ⟨as, r1⟩ := (d_list h ▸ rv : RV prog w G θ v (.d (.list l))).data
   obtain ⟨a, vs, m, bs, rfl, ho, ra⟩ := list_exact I r1
   exact getMethod_list_of PySem.F.slot_list_count PySem.F.type_list_count ⟨_, ho, rfl, _, rfl⟩ ⟨_, ho, rfl⟩ hq
end
section
variable {v : Value} {OV X : V} {vs : List Value} {Vs : List V}
theorem s_mGet (I : Inv prog w base G θ s μ) (rv : RV prog w G θ v OV) (rs : RVs prog w G θ vs Vs) (h : mGet μ OV Vs = some (X, μ')) : wpAny (model prog w) A (call (.builtin "dict.get") (v :: vs)) (Post prog w base G θ s μ' X) no s := by
 refine bind1 h fun q h2 h => bind1 h fun k hk h => bind1 h fun y hy h => bind1 h fun l hl h => if_some h fun hc h => inj2 h fun e e' => e ▸ e' ▸ ?_
 refine rvs_two (of_two h2 ▸ rs) fun v1 v2 e r1 r2 => ?_
 obtain rfl := e
 obtain ⟨d, o, rfl, ho, D, lo⟩ := dict_at I rv hl
 obtain ⟨x, rfl⟩ := is_str (and_t hc).1
 refine (of_dat hk ▸ r1 : RV prog w G θ v1 (.d (.str x))).data.elim fun _ q1 => of_str q1 fun t e => (d_int hy ▸ r2 : RV prog w G θ v2 (.d (.int y))).data.elim fun _ q2 => of_int q2 fun t2 e2 => ?_
 obtain rfl := e
 obtain rfl := e2
 exact call_get2_strTab ((D.1 (and_t hc).2).tab ho lo) (PyProof.V.Flat.int _ _) fun v hf => Post.toks I _ (Flat.rv hf)
theorem s_mExt (I : Inv prog w base G θ s μ) (rv : RV prog w G θ v OV) (rs : RVs prog w G θ vs Vs) (h : mExt μ OV Vs = some (X, μ')) : wpAny (model prog w) A (call (.builtin "list.extend") (v :: vs)) (Post prog w base G θ s μ' X) no s := by
 refine bind1 h fun V1 h1 h => bind1 h fun i hi h => bind1 h fun ys hy h => bind1 h fun l hl h => if_some h fun hc h => inj2 h fun e e' => e ▸ e' ▸ ?_
 refine rvs_one (of_one h1 ▸ rs) fun v1 e r1 => of_obj (of_objV hi ▸ rv) fun a e1 e2 => ?_
 obtain rfl := e
 obtain rfl := e1
 obtain ⟨us, m, bs, ho, ra⟩ := mlist_exact I e2 (at_list hl)
 obtain ⟨_, q1⟩ := (d_list hy ▸ r1 : RV prog w G θ v1 (.d (.list ys))).data
 obtain ⟨b, ws, m2, cs, rfl, hb, rb⟩ := list_exact I q1
 obtain ⟨ds, rc⟩ := ReadsAll.append ra rb
 have l1 := ReadsAll.len ra
 have l2 := ReadsAll.len rb
 have hz := smallLen_of hc
 rw [List.length_append, <- l1, <- l2, Array.length_toList, Array.length_toList] at hz
 have hz : us.size + ws.size < sizeLine := Nat.lt_of_le_of_lt hz (by rw [sizeLine_is]; decide)
 have hg := (I.rep i a _ e2 (at_list hl)).1
 have hnew : (s.heap.update a (Obj.mapSeq fun x => x ++ ws)).get? a = some (seqObj "list" (us ++ ws) (if (us ++ ws).size == us.size then m else m + 1)) := get?_update_seq ho _
 have hsame : Heap.SameBut a s.heap (s.heap.update a (Obj.mapSeq fun x => x ++ ws)) := Heap.SameBut.update ..
 refine call_meets PySem.F.slot_list_extend ⟨_, ho, rfl⟩ PySem.F.entry_list_extend (PySem.F.args_list_extend_2 _ _)
   (PySem.AutoSeq1.list_extend_list_list_0 a us m b ws m2 (by simp only [Builtin.List.listTooLong, Bool.and_eq_true, decide_eq_true_eq, not_and]; intro _; exact Nat.not_le.mpr (Nat.lt_succ_of_lt hz)) (Nat.le_of_lt (Nat.lt_of_le_of_lt (Nat.le_add_right _ _) hz)) (Nat.le_succ_of_le (Nat.le_of_lt hz))) ⟨ho, hb, ?_⟩
 exact ⟨G, θ, Ext.set (List.mem_of_getElem? e2) hsame ⟨_, hnew⟩, I.set e2 hg hsame ⟨_, hnew⟩ ⟨hg, _, _, _, ds, hnew, rfl, rfl, (Array.toList_append (xs := us) (ys := ws)).symm ▸ rc, rfl, rfl⟩, .d .none⟩
theorem s_mCount (I : Inv prog w base G θ s μ) (rv : RV prog w G θ v OV) (rs : RVs prog w G θ vs Vs) (h : mCount μ OV Vs = some (X, μ')) : wpAny (model prog w) A (call (.builtin "list.count") (v :: vs)) (Post prog w base G θ s μ' X) no s := by
 refine bind1 h fun V1 h1 h => bind1 h fun l hl h => bind1 h fun x hx h => if_some h fun hc h => inj2 h fun e e' => e ▸ e' ▸ ?_
 refine rvs_one (of_one h1 ▸ rs) fun v1 e r1 => ?_
 obtain rfl := e
 obtain ⟨_, q0⟩ := (d_list hl ▸ rv : RV prog w G θ v (.d (.list l))).data
 obtain ⟨_, q1⟩ := (d_str hx ▸ r1 : RV prog w G θ v1 (.d (.str x))).data
 obtain ⟨a, us, m, bs, rfl, ho, ra⟩ := list_exact I q0
 obtain ⟨ys, hS, rfl⟩ := strs_of ra hc
 refine of_str q1 fun t e => ?_
 obtain rfl := e
 exact count_list_strs (vs := us.toList) ⟨_, ho, rfl, m, rfl⟩ hS (Post.toks I _ (.d (.int _ _)))
theorem s_methB {name : Str} (I : Inv prog w base G θ s μ) (rv : RV prog w G θ v OV) (rs : RVs prog w G θ vs Vs) (h : methM μ OV name Vs = some (X, μ')) :
   wpAny (model prog w) A (call (methB name) (v :: vs)) (Post prog w base G θ s μ' X) no s := by
 refine if_or h (fun hn h => ?_) fun hn h => if_or h (fun hn h => ?_) fun hn h => if_or h (fun hn h => ?_) fun _ h => no_some h
 · exact beq_iff_eq.mp hn ▸ s_mGet I rv rs h
 · exact beq_iff_eq.mp hn ▸ s_mExt I rv rs h
 · exact beq_iff_eq.mp hn ▸ s_mCount I rv rs h
end
theorem backTo_all {pos : Pos} {args : List Expr} (h : ∀ e ∈ args, ∀ x p, e ≠ .Starred x p) : (backTo pos (starEach args env)).all (!·.1) = true := by
 have := backTo_any (env := env) (pos := pos) h
 rw [List.all_eq_not_any_not]
 simp only [Bool.not_not]
 simpa using this
theorem plainBase_whole {o : Expr} (h : plainBase o = true) (name : Str) (whole : Sem Value) : attributeBase o name env whole = whole := by
 cases o with
 | Name x p => rfl
 | Attribute q x p =>
   cases q with
   | Name y p' => rfl
   | _ => exact no_ft h
 | _ => exact no_ft h
theorem s_meth {o : Expr} {name : Str} {apos pos : Pos} {args : List Expr} {OV X : V} {μ1 μ2 : Sto} {Vs : List V} (B : BaseOk P prog w base) (H : ClsOk P prog w base) (hs : SEv prog w base r n) (hc : SCall prog w base r n) (hst : NoStar r) (hroom : Room A n)
   (I : Inv prog w base G θ s μ) (R : EnvRep prog w G θ s.heap env fm) (hok : okMeth o apos pos args = true) (h1 : r.ev fm o μ = some (OV, μ1)) (hp : preM P μ1 OV name = true) (h2 : evsM (r.ev fm) args μ1 = some (Vs, μ2)) (h3 : callMeth P r OV name Vs μ2 = some (X, μ')) :
   wpAny (model prog w) A (eval (.Call (.Attribute o name apos) args [] pos) env) (Post prog w base G θ s μ' X) no s := by
 obtain ⟨hb, hl, hlen⟩ := and3 hok
 have hlen := of_decide_eq_true hlen
 have hplain := (evs_plain hst h2).1
 rw [arm_eval_Call, plainBase_whole hb]
 refine wpAny_bind (wpAny_mono (hs A G θ s μ env fm o OV μ1 hroom I R h1) (fun ov s1 p1 => ?_) fun _ _ x => x)
 refine p1.el fun G1 t1 e1 I1 r1 => ?_
 refine wpAny_bind (wpAny_standAt ?_)
 have R1 := R.ext e1
 unfold methodCall
 have hform : methodCallForm (args.length + ([] : List Keyword).length) (backTo pos (starEach args env)) (backToKw pos (keywordEach [] env)) = true := by
   unfold methodCallForm
   rw [backTo_all hplain]
   exact decide_eq_true hlen
 rw [hform]
 have hpos : methodCallPos true o env apos pos = pure pos := by unfold methodCallPos; rw [hl]; rfl
 rw [hpos]
 refine wpAny_bind (wpAny_holding ?_)
 have r1' := r1
 cases hi : instOf OV with
 | some q =>
   unfold preM at hp
   unfold callMeth at h3
   rw [hi] at hp h3
   refine bind1 h3 fun f hf h3 => s_getI H I1 r1 hi hp fun f' hf' => ?_
   obtain rfl := Option.some.inj (hf.symm.trans hf')
   exact wpAny_bind (wpAny_pure (s_callWith hs hst hroom (fun h hsub => B.keeps f (.inl (H.methFn _ _ _ hf)) h hsub) I1 R1 h2 (fun vs G2 t2 s2 e2 I2 rs =>
     wpAny_mono (hc A G2 t2 s2 μ2 (.ref f) (.con (.ref f)) (ov :: vs) _ X μ' hroom I2 (.con _) (.cons (e2.rv r1) rs) h3) (fun v s' p => Post.of (e1.trans e2) p) fun _ _ x => x)))
 | none =>
   unfold preM at hp
   unfold callMeth at h3
   rw [hi] at hp h3
   refine s_getB I1 r1 hp (wpAny_bind (wpAny_pure (s_callWith hs hst hroom (fun h _ => keeps_plain (fun a e => methB_ref e) h) I1 R1 h2 (fun vs G2 t2 s2 e2 I2 rs =>
     wpAny_mono (s_methB I2 (e2.rv r1) rs h3) (fun v s' p => Post.of (e1.trans e2) p) fun _ _ x => x))))
end
end Mine
end
section
namespace Mine
open PySem PySem.W PyProof.Rows PySem.Spec
section
variable {P : Par} {prog : Program} {w : World} {base G G' : Heap} {θ θ' : List Addr} {s s' : Shared} {μ μ' : Sto} {A : Around} {n : Nat} {r : Rec} {env : Env} {fm : Fm}
theorem RV.bool {v : Value} {b : Bool} (h : RV prog w G θ v (.d (.bool b))) : v = .bool b := by
 exact h.data.elim fun _ r => of_bool r id
theorem s_boolOp {op : BoolOp} {pos : Pos} (hs : SEv prog w base r n) (hroom : Room A n) {xs : List Expr} : ∀ {G : Heap} {θ : List Addr} {s : Shared} {μ : Sto} {X : V} {μ' : Sto}, Inv prog w base G θ s μ -> EnvRep prog w G θ s.heap env fm ->
   boolM (r.ev fm) op xs μ = some (X, μ') -> wpAny (model prog w) A (boolOp pos op (evalEach xs env)) (Post prog w base G θ s μ' X) no s := by
 induction xs with
 | nil => exact fun _ _ h => no_some h
 | cons x rest ih =>
   intro G θ s μ X μ' I R h
   cases rest with
   | nil => exact hs A G θ s μ env fm x X μ' hroom I R h
   | cons y rest =>
     refine bind2 (show ((r.ev fm x μ).bind fun v => boolK op v.1 v.2 (boolM (r.ev fm) op (y :: rest) v.2)) = some (X, μ') from h) fun v μ1 h1 h2 => ?_
     show wpAny _ _ (do
       let v <- eval x env
       standAt pos
       let t <- holding [v] (truthy v)
       match op, t with
       | .And, false | .Or, true => pure v
       | _, _ => boolOp pos op (evalEach (y :: rest) env)) _ _ _
     refine wpAny_bind (wpAny_mono (hs A G θ s μ env fm x v μ1 hroom I R h1) (fun v' s1 p1 => p1.el fun G1 t1 e1 I1 r1 => ?_) fun _ _ x => x)
     refine wpAny_bind (wpAny_standAt (wpAny_bind (wpAny_holding ?_)))
     refine bind1 h2 fun b hb h2 => ?_
     obtain rfl := of_boolV hb
     obtain rfl := r1.bool
     have here : some (V.d (.bool b), μ1) = some (X, μ') -> Post prog w base G θ s μ' X (.bool b) s1 := fun h => inj2 h fun e e' => e ▸ e' ▸ ⟨G1, t1, e1, I1, r1⟩
     have again : boolM (r.ev fm) op (y :: rest) μ1 = some (X, μ') -> wpAny (model prog w) A (boolOp pos op (evalEach (y :: rest) env)) (Post prog w base G θ s μ' X) no s1 := fun h =>
       wpAny_mono (ih I1 (R.ext e1) h) (fun _ _ p => Post.of e1 p) fun _ _ x => x
     clear ih h h1
     refine wpAny_truthy_bool ?_
     cases op <;> cases b <;> first | exact wpAny_pure (here h2) | exact again h2
theorem s_allTrue {op : BoolOp} (ht : STr prog w base r n) (hroom : Room A n) {xs : List Expr} : ∀ {G : Heap} {θ : List Addr} {s : Shared} {μ : Sto} {X : Bool} {μ' : Sto}, Inv prog w base G θ s μ -> EnvRep prog w G θ s.heap env fm ->
   allM (r.tr fm) op xs μ = some (X, μ') -> wpAny (model prog w) A (allTrue op xs env) (PostB prog w base G θ s μ' X) no s := by
 induction xs with
 | nil =>
   intro G θ s μ X μ' I R h
   refine inj2 h fun e1 e2 => e1 ▸ e2 ▸ ?_
   cases op <;> exact wpAny_pure ⟨rfl, G, θ, Ext.refl _ _ _ _, I⟩
 | cons x rest ih =>
   intro G θ s μ X μ' I R h
   refine bind2 (show ((r.tr fm x μ).bind fun b => if b.1 == isOr op then some b else allM (r.tr fm) op rest b.2) = some (X, μ') from h) fun b μ1 h1 h2 => ?_
   show wpAny _ _ (do
     match op, <- isTrue x env (eval x env) with
     | .And, false => pure false
     | .Or, true => pure true
     | _, _ => allTrue op rest env) _ _ _
   refine wpAny_bind (wpAny_mono (ht A G θ s μ env fm x b μ1 hroom I R h1) (fun b' s1 p1 => p1.el fun eb G1 t1 e1 I1 => ?_) fun _ _ x => x)
   subst eb
   have here : some (b', μ1) = some (X, μ') -> PostB prog w base G θ s μ' X b' s1 := fun h => inj2 h fun e e' => e' ▸ ⟨e, G1, t1, e1, I1⟩
   have again : allM (r.tr fm) op rest μ1 = some (X, μ') -> wpAny (model prog w) A (allTrue op rest env) (PostB prog w base G θ s μ' X) no s1 := fun h =>
     wpAny_mono (ih I1 (R.ext e1) h) (fun _ _ p => PostB.of e1 p) fun _ _ x => x
   clear ih h h1
   cases op <;> cases b' <;> first | exact wpAny_pure (here h2) | exact again h2
section
variable {l x : Expr} {op : CmpOp} {pos : Pos}
theorem s_cmpE {X : V} (hs : SEv prog w base r n) (hroom : Room A n) (I : Inv prog w base G θ s μ) (R : EnvRep prog w G θ s.heap env fm) (h : cmpE r fm l op x μ (fun c μ => (V.d (.bool c), μ)) = some (X, μ')) :
   wpAny (model prog w) A (eval (.Compare l [op] [x] pos) env) (Post prog w base G θ s μ' X) no s :=
 if_no h fun hm h => bind2 h fun a μ1 h1 h => bind2 h fun b μ2 h2 h => bind1 h fun c h3 h => inj2 h fun e e' => e ▸ e' ▸
   wpAny_Compare1 (wpAny_mono (hs A G θ s μ env fm l a μ1 hroom I R h1) (fun v1 s1 p1 => p1.el fun G1 t1 e1 I1 r1 =>
     wpAny_mono (hs A G1 t1 s1 μ1 env fm x b μ2 hroom I1 (R.ext e1) h2) (fun v2 s2 p2 => p2.el fun G2 t2 e2 I2 r2 =>
       wpAny_mono (s_cmp hroom.units200 I2 (e2.rv r1) r2 h3) (fun _ _ p => Post.of (e1.trans e2) p) fun _ _ x => x) fun _ _ x => x) fun _ _ x => x) (Bool.eq_false_iff.mpr hm)
theorem s_cmpT {X : Bool} {whole : Sem Value} (hs : SEv prog w base r n) (hroom : Room A n) (I : Inv prog w base G θ s μ) (R : EnvRep prog w G θ s.heap env fm) (h : cmpE r fm l op x μ (fun c μ => (c, μ)) = some (X, μ')) :
   wpAny (model prog w) A (isTrue (.Compare l [op] [x] pos) env whole) (PostB prog w base G θ s μ' X) no s :=
 if_no h fun hm h => bind2 h fun a μ1 h1 h => bind2 h fun b μ2 h2 h => bind1 h fun c h3 h => inj2 h fun e e' => e ▸ e' ▸
   wpAny_isTrue_Compare1 (wpAny_mono (hs A G θ s μ env fm l a μ1 hroom I R h1) (fun v1 s1 p1 => p1.el fun G1 t1 e1 I1 r1 =>
     wpAny_mono (hs A G1 t1 s1 μ1 env fm x b μ2 hroom I1 (R.ext e1) h2) (fun v2 s2 p2 => p2.el fun G2 t2 e2 I2 r2 =>
       wpAny_mono (s_cmp hroom.units200 I2 (e2.rv r1) r2 h3) (fun v3 s3 p3 => p3.el fun G3 t3 e3 I3 r3 => r3.bool ▸ wpAny_truthy_bool ⟨rfl, G3, t3, (e1.trans e2).trans e3, I3⟩) fun _ _ x => x) fun _ _ x => x) fun _ _ x => x) (Bool.eq_false_iff.mpr hm)
end
theorem s_stepTr (hs : SEv prog w base r n) (ht : STr prog w base r n) {e : Expr} {X : Bool} (hroom : Room A n) (I : Inv prog w base G θ s μ) (R : EnvRep prog w G θ s.heap env fm) (h : stepTr r fm e μ = some (X, μ')) :
   wpAny (model prog w) A (isTrue e env (eval e env)) (PostB prog w base G θ s μ' X) no s := by
 cases e with
 | UnaryOp op x p =>
   cases op with
   | Not =>
     exact bind2 h fun b μ1 h1 h => inj2 h fun e e' => e ▸ e' ▸ wpAny_isTrue_Not (wpAny_mono (ht A G θ s μ env fm _ b _ hroom I R h1) (fun b' s1 p1 => ⟨congrArg not p1.1, p1.2⟩) fun _ _ x => x)
   | _ => exact no_some h
 | BoolOp op vs p => exact wpAny_isTrue_BoolOp (s_allTrue ht hroom I R h)
 | Compare l ops xs p =>
   refine bind1 h fun op ho h => bind1 h fun x hx h => ?_
   rw [of_one ho, of_one hx]
   exact s_cmpT hs hroom I R h
 | Call f args kws p =>
   exact bind2 h fun v μ1 h1 h => bind1 h fun b hb h => inj2 h fun e e' => e ▸ e' ▸ wpAny_isTrue_value (wpAny_mono (hs A G θ s μ env fm _ _ _ hroom I R h1) (fun v' s1 p1 => p1.el fun G1 t1 e1 I1 r1 =>
     (of_boolV hb ▸ r1 : RV prog w G1 t1 v' (.d (.bool b))).bool ▸ wpAny_truthy_bool ⟨rfl, G1, t1, e1, I1⟩) fun _ _ x => x)
 | _ => exact no_some h
theorem dataM_reads {Vs : List V} : ∀ {vs : List Value} {xs : List PyData}, RVs prog w G θ vs Vs -> dataM Vs = some xs -> ∃ as, ReadsAll G vs xs as := by
 induction Vs with
 | nil => exact fun r h => inj1 h fun e => rvs_nil r fun e' => e ▸ e' ▸ ⟨_, .nil⟩
 | cons V Vs ih => exact fun r h => bind1 h fun x hx h => bind1 h fun xs hxs h => inj1 h fun e => rvs_cons r fun v vs e' r1 r2 =>
     (of_dat hx ▸ r1 : RV prog w G θ v (.d x)).data.elim fun as q1 => (ih r2 hxs).elim fun bs q2 => e ▸ e' ▸ ⟨_, .cons q1 q2⟩
theorem SDict.empty : SDict prog w { cls := .type "dict", data := .dict #[] } [] := by
 obtain ⟨o, ho, hd⟩ := Heap.dictOf_iff.mp (Heap.DictOf.new (knd := PySem.strKind prog w) default)
 rw [Heap.get?_push_size _ rfl] at ho
 refine inj1 ho ?_; clear ho; rintro rfl
 exact ⟨[], hd, .nil⟩
theorem DictObj.empty : DictObj prog w G { cls := .type "dict", data := .dict #[] } [] :=
 ⟨fun _ => SDict.empty, fun _ => ⟨#[], 0, [], ⟨rfl, rfl, rfl⟩, rfl, rfl, by simp, by simp, .nil⟩, ⟨rfl, rfl, rfl⟩⟩
theorem Post.allocM (I : Inv prog w base G θ s μ) {o : Obj} {mo : MO} (t : Nat) (hf : o.isFreed = false) (hr : RepO prog w G (θ ++ [s.heap.objs.size]) (s.heap.push o) s.heap.objs.size mo) :
   Post prog w base G θ s (μ ++ [mo]) (.obj μ.length) (.ref s.heap.objs.size) { s with heap := s.heap.push o, toks := t } :=
 ⟨G, θ ++ [s.heap.objs.size], Ext.allocM.trans (Ext.grow (s := { s with heap := s.heap.push o }) (h := s.heap.push o) fun _ _ e => e), (I.allocM hf hr).toks t, .obj (by rw [<- I.len]; simp)⟩
theorem s_dictE {pos : Pos} (hb : sysModules < s.heap.objs.size) (I : Inv prog w base G θ s μ) : wpAny (model prog w) A (eval (.Dict [] [] pos) env) (Post prog w base G θ s (μ ++ [.dict []]) (.obj μ.length)) no s :=
 wpAny_Dict_empty (Post.allocM I s.toks rfl ⟨I.gnone (Nat.le_refl _), _, Heap.get?_push_size _ rfl, DictObj.empty, beq_eq_false_iff_ne.mpr (Nat.ne_of_gt hb)⟩)
section
variable {elts : List Expr} {pos : Pos} {xs : List PyData} {X : V} {k : Nat}
theorem hundred : 100 < sizeLine := by rw [sizeLine_is]; decide
theorem s_row {K : List PyData -> Sto -> V × Sto} {C : List Value -> Sem Value} (hs : SEv prog w base r n) (hst : NoStar r) (hroom : Room A n) (I : Inv prog w base G θ s μ) (R : EnvRep prog w G θ s.heap env fm) (h : evRow r fm elts μ K = some (X, μ'))
   (hk : ∀ G θ s μ vs xs as, Inv prog w base G θ s μ -> ReadsAll G vs xs as -> vs.length <= sizeLine -> K xs μ = (X, μ') -> wpAny (model prog w) A (C vs) (Post prog w base G θ s μ' X) no s) :
   wpAny (model prog w) A (do standAt pos; let vs <- spliced (backTo pos (starEach elts env)); C vs) (Post prog w base G θ s μ' X) no s :=
 if_some h fun hl h => bind2 h fun Vs μ1 h1 h => bind1 h fun xs h2 h =>
   wpAny_bind (wpAny_standAt (wpAny_bind (wpAny_mono (s_evs hs hst hroom I R h1) (fun vs s1 p1 => p1.el fun G1 t1 e1 I1 r1 =>
     (dataM_reads r1 h2).elim fun as ra => wpAny_mono (hk G1 t1 s1 μ1 _ xs as I1 ra (Nat.le_of_lt (Nat.lt_trans ((by rw [r1.length, (evs_plain hst h1).2]; exact of_decide_eq_true hl)) hundred)) (Option.some.inj h)) (fun _ _ p => Post.of e1 p) fun _ _ x => x) fun _ _ x => x)))
theorem s_listE (hs : SEv prog w base r n) (hst : NoStar r) (hroom : Room A n) (I : Inv prog w base G θ s μ) (R : EnvRep prog w G θ s.heap env fm)
   (h : evRow r fm elts μ (fun xs μ => if mutDisplay elts then (.obj μ.length, μ ++ [.list xs]) else (.d (.list xs), μ)) = some (X, μ')) :
   wpAny (model prog w) A (eval (.List elts pos) env) (Post prog w base G θ s μ' X) no s := by
 rw [arm_eval_List]
 refine s_row hs hst hroom I R h fun G θ s μ vs xs as I ra hl h => wpAny_newList ?_ hl
 refine if_or h (fun _ h => ?_) fun _ h => inj2 (congrArg some h) fun e e' => e ▸ e' ▸ Post.list I _ ra
 exact inj2 (congrArg some h) fun e e' => e ▸ e' ▸ Post.allocM I s.toks rfl ⟨I.gnone (Nat.le_refl _), _, _, _, as, Heap.get?_push_size _ rfl, rfl, rfl, ra, rfl, rfl⟩
theorem s_tupleE (hs : SEv prog w base r n) (hst : NoStar r) (hroom : Room A n) (I : Inv prog w base G θ s μ) (R : EnvRep prog w G θ s.heap env fm) (h : evRow r fm elts μ (fun xs μ => (.d (.tuple xs), μ)) = some (X, μ')) :
   wpAny (model prog w) A (eval (.Tuple elts k pos) env) (Post prog w base G θ s μ' X) no s := by
 rw [arm_eval_Tuple]
 exact s_row hs hst hroom I R h fun G θ s μ vs xs as I ra hl h => wpAny_newTuple (inj2 (congrArg some h) fun e e' => e ▸ e' ▸ Post.tuple I _ ra) hl
end
end
end Mine
end
section
namespace Mine
open PySem PySem.W PyProof.Rows PySem.Spec
section
variable {P : Par} {prog : Program} {w : World} {base G G' : Heap} {θ θ' : List Addr} {s s' : Shared} {μ μ' : Sto} {A : Around} {n : Nat} {r : Rec} {env : Env} {fm : Fm}
theorem OptRV.ext {v : Value} {x : Option V} {W : List Addr} (h : OptRV prog w G θ v x) (e : Ext W G θ s G' θ' s') : OptRV prog w G' θ' v x := by
 cases x with
 | none => exact h
 | some x => exact e.rv h
theorem s_opt {e : Option Expr} {X : Option V} (hs : SEv prog w base r n) (hroom : Room A n) (I : Inv prog w base G θ s μ) (R : EnvRep prog w G θ s.heap env fm) (h : optM (r.ev fm) e μ = some (X, μ')) :
   wpAny (model prog w) A (valueOrNone (evalOpt e env)) (fun v s' => ∃ G' θ', Ext [] G θ s G' θ' s' /\ Inv prog w base G' θ' s' μ' /\ OptRV prog w G' θ' v X) no s := by
 cases e with
 | none => exact inj2 h fun e e' => e ▸ e' ▸ wpAny_pure ⟨G, θ, Ext.refl _ _ _ _, I, rfl⟩
 | some e => exact bind2 h fun v μ1 h1 h => inj2 h fun e1 e' => e1 ▸ e' ▸ hs A G θ s μ env fm e v _ hroom I R h1
theorem s_subSlice {v : Expr} {lo hi st : Option Expr} {p pos : Pos} {O X : V} {a b c : Option V} {μ1 μ2 μ3 : Sto} (hs : SEv prog w base r n) (hroom : Room A n) (I : Inv prog w base G θ s μ) (R : EnvRep prog w G θ s.heap env fm)
   (h0 : r.ev fm v μ = some (O, μ1)) (h1 : optM (r.ev fm) lo μ1 = some (a, μ2)) (h2 : optM (r.ev fm) hi μ2 = some (b, μ3)) (h3 : optM (r.ev fm) st μ3 = some (c, μ')) (h4 : sliceM O a b c = some X) :
   wpAny (model prog w) A (eval (.Subscript v (.Slice lo hi st p) pos) env) (Post prog w base G θ s μ' X) no s := by
 refine Subscript_ (wpAny_mono (hs A G θ s μ env fm v O μ1 hroom I R h0) (fun o s1 p1 => ?_) fun _ _ x => x)
 refine p1.el fun G1 t1 e1 I1 r1 => ?_
 have R1 := R.ext e1
 rw [arm_eval_Slice]
 refine wpAny_bind (wpAny_mono (s_opt hs hroom I1 R1 h1) (fun va s2 p2 => ?_) fun _ _ x => x)
 refine ex2 p2 fun G2 t2 e2 I2 r2 => ?_
 have R2 := R1.ext e2
 refine wpAny_bind (wpAny_holding (wpAny_mono (s_opt hs hroom I2 R2 h2) (fun vb s3 p3 => ?_) fun _ _ x => x))
 refine ex2 p3 fun G3 t3 e3 I3 r3 => ?_
 have R3 := R2.ext e3
 refine wpAny_bind (wpAny_holding (wpAny_mono (s_opt hs hroom I3 R3 h3) (fun vc s4 p4 => ?_) fun _ _ x => x))
 refine ex2 p4 fun G4 t4 e4 I4 r4 => ?_
 unfold newFields
 refine wpAny_newObj_type ?_
 have ra : OptRV prog w G4 t4 va a := (r2.ext e3).ext e4
 have rb : OptRV prog w G4 t4 vb b := r3.ext e4
 refine wpAny_mono (s_slice (a := va) (b := vb) (c := vc) I4 (((e2.trans e3).trans e4).rv r1) ra rb r4 h4)
   (fun _ _ p => Post.of (((e1.trans e2).trans e3).trans e4) p) fun _ _ x => x
theorem s_subItem {v i : Expr} {pos : Pos} {O K X : V} {μ1 : Sto} (hs : SEv prog w base r n) (hroom : Room A n) (I : Inv prog w base G θ s μ) (R : EnvRep prog w G θ s.heap env fm)
   (h0 : r.ev fm v μ = some (O, μ1)) (h1 : r.ev fm i μ1 = some (K, μ')) (h2 : itemM μ' O K = some X) :
   wpAny (model prog w) A (eval (.Subscript v i pos) env) (Post prog w base G θ s μ' X) no s := by
 refine Subscript_ (wpAny_mono (hs A G θ s μ env fm v O μ1 hroom I R h0) (fun o s1 p1 => ?_) fun _ _ x => x)
 refine p1.el fun G1 t1 e1 I1 r1 => ?_
 refine wpAny_mono (hs A G1 t1 s1 μ1 env fm i K μ' hroom I1 (R.ext e1) h1) (fun k s2 p2 => ?_) fun _ _ x => x
 refine ex2 p2 fun G2 t2 e2 I2 r2 => ?_
 exact wpAny_mono (s_item hroom.units200 I2 (e2.rv r1) r2 h2) (fun _ _ p => Post.of (e1.trans e2) p) fun _ _ x => x
theorem s_attrE {o : Expr} {name : Str} {pos : Pos} {O X : V} (H : ClsOk P prog w base) (hs : SEv prog w base r n) (hroom : Room A n) (I : Inv prog w base G θ s μ) (R : EnvRep prog w G θ s.heap env fm) (hb : plainBase o = true)
   (h0 : r.ev fm o μ = some (O, μ')) (h1 : attrM P μ' O name = some X) :
   wpAny (model prog w) A (eval (.Attribute o name pos) env) (Post prog w base G θ s μ' X) no s := by
 rw [arm_eval_Attribute, plainBase_whole hb]
 refine wpAny_bind (wpAny_mono (hs A G θ s μ env fm o O μ' hroom I R h0) (fun ov s1 p1 => ?_) fun _ _ x => x)
 refine p1.el fun G1 t1 e1 I1 r1 => ?_
 refine wpAny_bind (wpAny_standAt (wpAny_bind (wpAny_holding (wpAny_mono (s_attr H I1 r1 h1) (fun v s2 p2 => ?_) fun _ _ x => x))))
 exact wpAny_bind (wpAny_letTemporaryGo (wpAny_pure (Post.of e1 p2)))
theorem of_callM {C : Prop} {f : Value} {F : V} {Vs : List V} {rr : Rec} {z : V × Sto} (rf : RV prog w G θ f F) (h : callM P rr F Vs μ = some z) (k1 : ∀ a, f = .ref a -> ∀ fi, P.fn a = some fi -> callF rr fi Vs μ = some z -> C)
   (k2 : ∀ a, f = .ref a -> ∀ b, P.ctor a = some b -> ctorM b a Vs μ = some z -> C) (k3 : ∀ g, f = g -> (∀ a, g ≠ .ref a) -> builtinM μ g Vs = some z -> C) : C := by
 cases F with
 | con g =>
   cases g with
   | ref a =>
     have h : callR P rr a Vs μ = some z := h
     unfold callR at h
     cases hf : P.fn a with
     | some fi => rw [hf] at h; exact k1 a (rv_inv rf) fi hf h
     | none => rw [hf] at h; exact bind1 h fun b hb h => k2 a (rv_inv rf) b hb h
   | _ => exact k3 _ (rv_inv rf) (fun a e => nomatch e) h
 | _ => exact no_some h
theorem keeps_V {f : Value} {F : V} {Vs : List V} {X : V} {n : Nat} (B : BaseOk P prog w base) (rf : RV prog w G θ f F) {rr : Rec} (h : callM P rr F Vs μ = some (X, μ')) :
   ∀ h, Sub base h -> ∃ k, (k = Keeper.frame \/ k = Keeper.machine \/ k = Keeper.boundFrame) /\ Looks (model prog w) h (keeperOf f) k := by
 refine of_callM rf h (fun a e fi hf _ => ?_) (fun a e b hb _ => ?_) fun g e hg _ => ?_
 · exact e ▸ B.keeps a (.inl (hf ▸ rfl))
 · exact e ▸ B.keeps a (.inr (hb ▸ rfl))
 · exact fun hh _ => e ▸ keeps_plain hg hh
theorem s_callE {f : Str} {args : List Expr} {p pos : Pos} {F X : V} {Vs : List V} {μ1 : Sto} {rr : Rec} {m : Nat} (B : BaseOk P prog w base) (hs : SEv prog w base r n) (hc : SCall prog w base r n) (hst : NoStar r) (hroom : Room A n) (hrc : ∀ F Vs μ, r.call F Vs μ = callM P rr F Vs μ \/ r.call F Vs μ = none)
   (I : Inv prog w base G θ s μ) (R : EnvRep prog w G θ s.heap env fm) (h0 : nameM P fm f = some F) (h1 : evsM (r.ev fm) args μ = some (Vs, μ1)) (h2 : r.call F Vs μ1 = some (X, μ')) :
   wpAny (model prog w) A (eval (.Call (.Name f p) args [] pos) env) (Post prog w base G θ s μ' X) no s := by
 show wpAny _ _ (do callWith pos (<- eval (.Name f p) env) [] (backTo pos (starEach args env)) (backToKw pos (keywordEach [] env))) _ _ _
 refine wpAny_bind (wpAny_mono (s_name B I R h0) (fun fv s1 p1 => ?_) fun _ _ x => x)
 refine p1.el fun G1 t1 e1 I1 r1 => ?_
 have hcall : callM P rr F Vs μ1 = some (X, μ') := (hrc F Vs μ1).elim (fun q => q.symm.trans h2) fun q => no_some (q.symm.trans h2)
 refine s_callWith hs hst hroom (keeps_V (n := n) B r1 hcall) I1 (R.ext e1) h1 (fun vs G2 t2 s2 e2 I2 rs => ?_)
 exact wpAny_mono (hc A G2 t2 s2 μ1 fv F vs Vs X μ' hroom I2 (e2.rv r1) rs h2) (fun v s' p => Post.of (e1.trans e2) p) fun _ _ x => x
theorem s_callM {f : Value} {F X : V} {vs : List Value} {Vs : List V} (B : BaseOk P prog w base) (H : ClsOk P prog w base) (hx : SExs prog w base r n) (hroom : Room A (n + 1)) (hn : 100 <= n \/ P.ctor = fun _ => none) (I : Inv prog w base G θ s μ)
   (rf : RV prog w G θ f F) (rs : RVs prog w G θ vs Vs) (h : callM P r F Vs μ = some (X, μ')) : wpAny (model prog w) A (call f vs) (Post prog w base G θ s μ' X) no s := by
 refine of_callM rf h (fun a e fi hf h => ?_) (fun a e b hb h => ?_) fun g e hg h => ?_
 · exact e ▸ s_callFn B hx hroom I hf rs h
 · exact e ▸ hn.elim (fun hn => H.ctor (hroom.less (Nat.le_succ_of_le hn)) I hb rs h) fun hn => no_some ((congrFun hn a).symm.trans hb)
 · exact e ▸ s_builtin (n := n) B hroom.pred I rs h
end
end Mine
end
section
namespace Mine
open PySem PySem.W PyProof.Rows PySem.Spec
theorem IsTuple.at {h h' : Heap} {a : Addr} {items : Array Value} (x : h.IsTuple a items) (k : ∀ o, h.get? a = some o -> h'.get? a = some o) : h'.IsTuple a items := let ⟨o, ho, r⟩ := x; ⟨o, k o ho, r⟩
theorem IsTupleIter.at {h h' : Heap} {a t : Addr} {i : Nat} (x : h.IsTupleIter a t i) (k : ∀ o, h.get? a = some o -> h'.get? a = some o) : h'.IsTupleIter a t i := let ⟨o, ho, r⟩ := x; ⟨o, k o ho, r⟩
section
variable {prog : Program} {w : World} {A : Around} {E : Value -> Shared -> Prop} {s : Shared}
theorem nextOf_tuple {it t : Addr} {i : Nat} {items : Array Value} {Q : Value -> Shared -> Prop} (hh : A.handled = none) (hit : s.heap.IsTupleIter it t i) (ht : s.heap.IsTuple t items)
   (hQ : ∀ x h', items[i]? = some x -> h'.IsTupleIter it t (i + 1) -> Heap.SameBut it s.heap h' -> Q x { s with heap := h' })
   (hE : items[i]? = none -> ∀ h' e, Heap.ExtBut it s.heap h' -> (∃ o, h'.get? e = some o /\ o.cls = .type "StopIteration") -> E (.ref e) { s with heap := h' }) :
   wpAny (model prog w) A (Builtin.SmallTypes.nextOf (.ref it)) Q E s := by
 obtain ⟨o, ho, hc, hd⟩ := id hit
 obtain ⟨ot, hot, _, nt, hdt⟩ := ht
 unfold Builtin.SmallTypes.nextOf
 have step : wpAny (model prog w) A.in1 (Builtin.«tuple_iterator.__next__» ⟨[.ref it], []⟩) (fun fin s' => ∃ v, fin = .done (.ret v) /\ Q v s') E s := by
   show wpAny _ _ (field (.ref it) 0 >>= _) _ _ s
   refine wpAny_bind (wpAny_field ho hd (x := .ref t) rfl ?_)
   show wpAny _ _ (if (Value.ref t == Value.none) = true then _ else _) _ _ s
   rw [if_neg (show ¬ ((Value.ref t == Value.none) = true) from Bool.false_ne_true)]
   show wpAny _ _ (field (.ref it) 1 >>= _) _ _ s
   refine wpAny_bind (wpAny_field ho hd (x := .int i 0) rfl ?_)
   show wpAny _ _ (seqItems? (.ref t) >>= _) _ _ s
   refine wpAny_bind (wpAny_seqItems hot hdt ?_)
   cases hx : items[i]? with
   | some x =>
     simp only [Int.toNat_natCast, hx]
     refine wpAny_bind (wpAny_setField ho hd (by simp) (wpAny_pure ⟨x, rfl, hQ x _ hx ⟨_, Heap.get?_update_self _ ho (Obj.isFreed_of_fields (Obj.data_mapFields hd _)), (Obj.cls_mapFields ..).trans hc, ?_⟩ (Heap.SameBut.update ..)⟩))
     rw [Obj.data_mapFields hd]; simp [rawInt]
   | none =>
     simp only [Int.toNat_natCast, hx]
     refine wpAny_bind (wpAny_rule (wpAny_bind (wpAny_setField ho hd (by simp) ?_)))
     show wpAny _ _ (newExc (.type "StopIteration") [] >>= _) _ _ _
     refine wpAny_bind ?_
     simp only [newExc, newTuple]
     refine wpAny_bind (wpAny_newObj_type ?_ (by size_fits))
     refine wpAny_bind (m := firstArgMember _ _) (wpAny_of_eq (a := Value.none) (by first | rfl | (simp only [firstArgMember]; rfl)) ?_)
     refine wpAny_newObj_type ?_ (by size_fits)
     simp only [raiseNew]
     refine wpAny_bind (wpAny_handled ?_)
     rw [show A.in1.handled = none from hh]
     refine wpAny_bind (wpAny_pure (wpAny_throw ?_))
     exact hE hx _ _ (((Heap.SameBut.update ..).extBut.push _).push _) ⟨_, Heap.get?_push_size _ rfl, rfl⟩
 refine wpAny_bind (wpAny_callSpecial?_slot (name := Str.ofString "__next__") hit.typeIs F.slot_tuple_iterator_next
   (wpAny_call_entry F.slot_tuple_iterator_next hit.typeIs F.entry_tuple_iterator_next (wpAny_mono step (fun fin s' q => ?_) fun _ _ q => q) (F.args_tuple_iterator_next_1 _)))
 obtain ⟨v, rfl, hq⟩ := q
 exact ⟨v, rfl, wpAny_pure hq⟩
theorem Draws.tuple (hh : A.handled = none) (it t : Addr) (hne : t ≠ it) (items : Array Value) :
   Draws prog w A it [it, t] items.size (fun i v => items[i]? = some v) (fun i h => h.IsTupleIter it t i /\ h.IsTuple t items) where
 live := fun _ _ st => let ⟨o, ho, _⟩ := st.1; ⟨o, ho⟩
 frame := fun _ _ _ st hk => ⟨IsTupleIter.at st.1 fun o e => hk it (by simp) o e, IsTuple.at st.2 fun o e => hk t (by simp) o e⟩
 item := fun i s Q E hi st hQ => nextOf_tuple hh st.1 st.2 (fun x h' hx hit' hs' => hQ x h' s.toks hx ⟨hit', st.2.extBut hs'.extBut hne⟩ hs') fun hn => by simp [hi] at hn
 done := fun s Q E st hE => nextOf_tuple hh st.1 st.2 (fun x h' hx => by simp at hx) fun _ => hE
structure Parted (z TI TO i1 i2 : Addr) (f1 f2 : List Addr) : Prop where
 a1 : TI ≠ z
 a2 : TO ≠ z
 a3 : TI ≠ TO
 z1 : z ∉ f1
 z2 : z ∉ f2
 o1 : TO ∉ f1
 o2 : TO ∉ f2
 t1 : TI ∉ f1
 t2 : TI ∉ f2
 m1 : i1 ∈ f1
 m2 : i2 ∈ f2
 n1 : i1 ∉ f2
 n2 : i2 ∉ f1
variable {z TI TO i1 i2 : Addr} {f1 f2 : List Addr} {n1 n2 : Nat} {P1 P2 : Nat -> Value -> Prop} {S1 S2 : Nat -> Heap -> Prop}
theorem updatePair {T : Addr} {a b x : Value} {k : Nat} {Q : Unit -> Shared -> Prop} (hT : IsPair s.heap T a b)
   (h : ∀ h', h'.get? T = some { cls := .type "tuple", data := .seq ((#[a, b] : Array Value).setIfInBounds k x) } -> Heap.SameBut T s.heap h' -> Q () { s with heap := h' }) :
   wpAny (model prog w) A (updateSeq T (·.setIfInBounds k x)) Q E s := wpAny_updateSeq_pair hT h
noncomputable abbrev Kept4 (h h' : Heap) (z TO i1 i2 : Addr) : Prop := ∀ c o, c ≠ z -> c ≠ TO -> c ≠ i1 -> c ≠ i2 -> h.get? c = some o -> h'.get? c = some o
theorem zip_turn {i : Nat} {a b : Value} {Q : Value -> Shared -> Prop} (D : Parted z TI TO i1 i2 f1 f2) (D1 : Draws prog w A i1 f1 n1 P1 S1) (D2 : Draws prog w A i2 f2 n2 P2 S2)
   (hz : IsZip s.heap z TI TO .none) (hTI : IsPair s.heap TI (.ref i1) (.ref i2)) (hTO : IsPair s.heap TO a b) (h1 : S1 i s.heap) (h2 : S2 i s.heap) (l1 : i <= n1) (l2 : i <= n2)
   (hQ : ∀ x y h' tk, P1 i x -> P2 i y -> i < n1 -> i < n2 -> IsZip h' z TI TO (rawInt s.heap.objs.size) -> IsPair h' TO x y -> S1 (i + 1) h' -> S2 (i + 1) h' -> IsPair h' s.heap.objs.size x y ->
     Kept4 s.heap h' z TO i1 i2 -> Q (.ref s.heap.objs.size) { s with heap := h', toks := tk })
   (hE : (i = n1 \/ i = n2) -> ∀ h' tk e, Kept4 s.heap h' z TO i1 i2 -> (∃ o, h'.get? e = some o /\ o.cls = .type "StopIteration") -> E (.ref e) { s with heap := h', toks := tk }) :
   wpAny (model prog w) A (Builtin.«zip.__next__» ⟨[.ref z], []⟩) (fun fin s' => ∃ v, fin = .done (.ret v) /\ Q v s') E s := by
 have i1z : i1 ≠ z := fun e => D.z1 (e ▸ D.m1)
 have i2z : i2 ≠ z := fun e => D.z2 (e ▸ D.m2)
 have TO1 : TO ≠ i1 := fun e => D.o1 (e ▸ D.m1)
 have TO2 : TO ≠ i2 := fun e => D.o2 (e ▸ D.m2)
 have i12 : i1 ≠ i2 := fun e => D.n1 (e ▸ D.m2)
 have ne {b c : Addr} {f : List Addr} (hb : b ∈ f) (hc : c ∉ f) : b ≠ c := fun e => hc (e ▸ hb)
 obtain ⟨hp, g, d, tk₀, os⟩ := s
 show wpAny _ _ (field (.ref z) 2 >>= _) _ _ _
 refine wpAny_bind (wpAny_field hz rfl (x := .bool false) rfl ?_)
 show wpAny _ _ (field (.ref z) 3 >>= _) _ _ _
 refine wpAny_bind (wpAny_field hz rfl (x := .ref TI) rfl ?_)
 refine wpAny_bind (wpAny_seqItems hTI rfl ?_)
 show wpAny _ _ (Builtin.SmallTypes.ownedTupleIsFree (.ref z) >>= _) _ _ _
 refine wpAny_bind ?_
 unfold Builtin.SmallTypes.ownedTupleIsFree
 refine wpAny_bind (wpAny_field hz rfl (x := .none) rfl (wpAny_pure ?_))
 simp only [if_true]
 refine wpAny_bind (wpAny_rule ?_)
 refine wpAny_bind (wpAny_field hz rfl (x := .ref TO) rfl ?_)
 refine wpAny_bind (wpAny_setField_rec hz (by simp) fun h₁ hz₁ hs₁ => ?_)
 replace hz₁ : IsZip h₁ z TI TO .ellipsis := hz₁
 replace hs₁ : Heap.SameBut z hp h₁ := hs₁
 have h1₁ : S1 i h₁ := D1.frame _ _ _ h1 fun b hb o e => hs₁.extBut _ _ (ne hb D.z1) e
 have h2₁ : S2 i h₁ := D2.frame _ _ _ h2 fun b hb o e => hs₁.extBut _ _ (ne hb D.z2) e
 refine wpAny_bind ?_
 simp only [List.zipIdx_cons, List.zipIdx_nil, List.forIn_cons, List.forIn_nil]
 refine wpAny_bind (wpAny_bind (wpAny_onRaise ?_))
 show wpAny _ _ (Builtin.SmallTypes.nextOf (.ref i1) >>= _) _ _ _
 rcases Nat.lt_or_ge i n1 with hi1 | hi1
 · refine wpAny_bind (D1.item i ⟨h₁, g, d, tk₀, os⟩ _ _ hi1 h1₁ fun x h₂ tk₂ hP1 h1₂ hs₂ => wpAny_pure ?_)
   replace hs₂ : Heap.SameBut i1 h₁ h₂ := hs₂
   have h2₂ : S2 i h₂ := D2.frame _ _ _ h2₁ fun b hb o e => hs₂.extBut _ _ (ne hb D.n1) e
   have hTO₂ : IsPair h₂ TO a b := hs₂.extBut _ _ TO1 (hs₁.extBut _ _ D.a2 hTO)
   refine wpAny_bind (wpAny_seqItems hTO₂ rfl ?_)
   refine wpAny_bind (wpAny_updateSeq_pair hTO₂ fun h₃ hTO₃ hs₃ => ?_)
   replace hTO₃ : IsPair h₃ TO x b := hTO₃
   replace hs₃ : Heap.SameBut TO h₂ h₃ := hs₃
   refine wpAny_bind (wpAny_letGo (wpAny_pure ?_))
   have h1₃ : S1 (i + 1) h₃ := D1.frame _ _ _ h1₂ fun b hb o e => hs₃.extBut _ _ (ne hb D.o1) e
   have h2₃ : S2 i h₃ := D2.frame _ _ _ h2₂ fun b hb o e => hs₃.extBut _ _ (ne hb D.o2) e
   refine wpAny_bind (wpAny_bind (wpAny_onRaise ?_))
   show wpAny _ _ (Builtin.SmallTypes.nextOf (.ref i2) >>= _) _ _ _
   rcases Nat.lt_or_ge i n2 with hi2 | hi2
   · refine wpAny_bind (D2.item i ⟨h₃, g, d, tk₂, os⟩ _ _ hi2 h2₃ fun y h₄ tk₄ hP2 h2₄ hs₄ => wpAny_pure ?_)
     replace hs₄ : Heap.SameBut i2 h₃ h₄ := hs₄
     have hTO₄ : IsPair h₄ TO x b := hs₄.extBut _ _ TO2 hTO₃
     have h1₄ : S1 (i + 1) h₄ := D1.frame _ _ _ h1₃ fun b hb o e => hs₄.extBut _ _ (ne hb D.n2) e
     refine wpAny_bind (wpAny_seqItems hTO₄ rfl ?_)
     refine wpAny_bind (wpAny_updateSeq_pair hTO₄ fun h₅ hTO₅ hs₅ => ?_)
     replace hTO₅ : IsPair h₅ TO x y := hTO₅
     replace hs₅ : Heap.SameBut TO h₄ h₅ := hs₅
     refine wpAny_bind (wpAny_letGo (wpAny_pure (wpAny_pure ?_)))
     refine wpAny_bind (wpAny_seqItems hTO₅ rfl ?_)
     refine wpAny_bind (wpAny_newTuple ?_)
     have hsz : h₅.objs.size = hp.objs.size := by rw [hs₅.1, hs₄.1, hs₃.1, hs₂.1, hs₁.1]
     have hz₅ : IsZip h₅ z TI TO .ellipsis := hs₅.extBut _ _ D.a2.symm (hs₄.extBut _ _ i2z.symm (hs₃.extBut _ _ D.a2.symm (hs₂.extBut _ _ i1z.symm hz₁)))
     have hk₅ : Kept4 hp h₅ z TO i1 i2 := fun c o c1 c2 c3 c4 e => hs₅.extBut _ _ c2 (hs₄.extBut _ _ c4 (hs₃.extBut _ _ c2 (hs₂.extBut _ _ c3 (hs₁.extBut _ _ c1 e))))
     have h1₅ : S1 (i + 1) h₅ := D1.frame _ _ _ h1₄ fun b hb o e => hs₅.extBut _ _ (ne hb D.o1) e
     have h2₅ : S2 (i + 1) h₅ := D2.frame _ _ _ h2₄ fun b hb o e => hs₅.extBut _ _ (ne hb D.o2) e
     have hzlt : z < h₅.objs.size := Heap.lt_size hz₅
     show wpAny _ _ (Builtin.SmallTypes.ownedTupleHandOut (.ref z) (.ref h₅.objs.size) >>= _) _ _ _
     refine wpAny_bind ?_
     unfold Builtin.SmallTypes.ownedTupleHandOut
     have hz₆ : IsZip (h₅.push { cls := .type "tuple", data := .seq #[x, y] }) z TI TO .ellipsis := Heap.get?_push_of_some _ hz₅
     refine wpAny_bind (wpAny_setField_rec hz₆ (by simp) fun h₇ hz₇ hs₇ => ?_)
     replace hz₇ : IsZip h₇ z TI TO (rawInt h₅.objs.size) := hz₇
     refine wpAny_setField_rec hz₇ (by simp) fun h₈ hz₈ hs₈ => ?_
     replace hz₈ : IsZip h₈ z TI TO (rawInt h₅.objs.size) := hz₈
     have up : ∀ c o, c ≠ z -> h₅.get? c = some o -> h₈.get? c = some o := fun c o c1 e => hs₈.extBut _ _ c1 (hs₇.extBut _ _ c1 (Heap.get?_push_of_some _ e))
     have hT₈ : IsPair h₈ h₅.objs.size x y := hs₈.extBut _ _ (Nat.ne_of_gt hzlt) (hs₇.extBut _ _ (Nat.ne_of_gt hzlt) (Heap.get?_push_size _ rfl))
     rw [hsz] at hz₈ hT₈
     refine wpAny_pure ⟨_, rfl, ?_⟩
     rw [hsz]
     exact hQ x y h₈ tk₄ hP1 hP2 hi1 hi2 hz₈ (up _ _ D.a2 hTO₅) (D1.frame _ _ _ h1₅ fun b hb o e => up b o (ne hb D.z1) e) (D2.frame _ _ _ h2₅ fun b hb o e => up b o (ne hb D.z2) e) hT₈
       fun c o c1 c2 c3 c4 e => up c o c1 (hk₅ c o c1 c2 c3 c4 e)
   · have hin : i = n2 := Nat.le_antisymm l2 hi2
     refine wpAny_bind (D2.done ⟨h₃, g, d, tk₂, os⟩ _ _ (hin ▸ h2₃) fun h₄ e hs₄ he => ?_)
     obtain ⟨oe, hoe, hce⟩ := he
     replace hs₄ : Heap.ExtBut i2 h₃ h₄ := hs₄
     have hz₄ : IsZip h₄ z TI TO .ellipsis := hs₄ _ _ i2z.symm (hs₃.extBut _ _ D.a2.symm (hs₂.extBut _ _ i1z.symm hz₁))
     have hez : e ≠ z := fun x => by subst x; rw [hz₄] at hoe; (refine inj1 hoe ?_; clear hoe; rintro rfl); simp at hce
     exact wpAny_setField_rec hz₄ (by simp) fun h₅ _ hs₅ => hE (.inr hin) h₅ _ e (fun c o c1 c2 c3 c4 x => hs₅.extBut _ _ c1 (hs₄ _ _ c4 (hs₃.extBut _ _ c2 (hs₂.extBut _ _ c3 (hs₁.extBut _ _ c1 x))))) ⟨oe, hs₅.extBut _ _ hez hoe, hce⟩
 · have hin : i = n1 := Nat.le_antisymm l1 hi1
   refine wpAny_bind (D1.done ⟨h₁, g, d, tk₀, os⟩ _ _ (hin ▸ h1₁) fun h₂ e hs₂ he => ?_)
   obtain ⟨oe, hoe, hce⟩ := he
   replace hs₂ : Heap.ExtBut i1 h₁ h₂ := hs₂
   have hz₂ : IsZip h₂ z TI TO .ellipsis := hs₂ _ _ i1z.symm hz₁
   have hez : e ≠ z := fun x => by subst x; rw [hz₂] at hoe; (refine inj1 hoe ?_; clear hoe; rintro rfl); simp at hce
   exact wpAny_setField_rec hz₂ (by simp) fun h₃ _ hs₃ => hE (.inl hin) h₃ _ e (fun c o c1 _ c3 _ x => hs₃.extBut _ _ c1 (hs₂ _ _ c3 (hs₁.extBut _ _ c1 x))) ⟨oe, hs₃.extBut _ _ hez hoe, hce⟩
end
end Mine
end
section
namespace Mine
open PySem PySem.W PyProof.Rows PySem.Spec
theorem lookup_setL (n : Str) (v : V) (x : Str) (ρ : Loc) : (setL n v ρ).lookup x = if x = n then some v else ρ.lookup x := by
 induction ρ with
 | nil =>
   show List.lookup x [(n, v)] = _
   rw [List.lookup_cons]
   by_cases h : x = n
   · rw [if_pos h, beq_iff_eq.mpr h]
   · rw [if_neg h, beq_eq_false_iff_ne.mpr h]
 | cons q r ih =>
   obtain ⟨k, u⟩ := q
   show List.lookup x (if k == n then (k, v) :: r else (k, u) :: setL n v r) = if x = n then some v else List.lookup x ((k, u) :: r)
   by_cases hk : k = n
   · rw [if_pos (beq_iff_eq.mpr hk), List.lookup_cons, List.lookup_cons, <- hk]
     by_cases h : x = k
     · rw [if_pos h, beq_iff_eq.mpr h]
     · rw [if_neg h, beq_eq_false_iff_ne.mpr h]
   · rw [if_neg (fun e => hk (beq_iff_eq.mp e)), List.lookup_cons, List.lookup_cons]
     by_cases h : x = k
     · rw [beq_iff_eq.mpr h, if_neg (fun e => hk (h.symm.trans e))]
     · rw [beq_eq_false_iff_ne.mpr h]; exact ih
theorem of_okN {C : Prop} {sc : Scope} {c : Bool} {x : Str} (h : okN sc c x = true) (k1 : sc.names.lookup x = some .local -> C) (k2 : c = true -> sc.names.lookup x = some .cell -> C) : C := by
 unfold okN at h
 cases hl : sc.names.lookup x with
 | none => rw [hl] at h; exact no_ft h
 | some k =>
   rw [hl] at h
   cases k with
   | «local» => exact k1 hl
   | cell => exact k2 h hl
   | _ => exact no_ft h
section
variable {P : Par} {prog : Program} {w : World} {base G G' : Heap} {θ θ' : List Addr} {s s' : Shared} {μ μ' : Sto} {A : Around} {n : Nat} {r : Rec} {env : Env} {fm : Fm} {sc : Scope} {ρ : Loc}
theorem Inv.other (I : Inv prog w base G θ s μ) {W : List Addr} {h' : Heap} {t : Nat} (hk : ∀ b o, b ∉ W -> s.heap.get? b = some o -> h'.get? b = some o) (hθ : ∀ b ∈ W, b ∉ θ) (hG : ∀ b ∈ W, G.get? b = none) :
   Inv prog w base G θ { s with heap := h', toks := t } μ where
 bs := I.bs
 sub := fun b o e => hk b o (fun q => by rw [hG b q] at e; exact no_some e) (I.sub _ _ e)
 len := I.len
 nd := I.nd
 live := fun a ha => let ⟨o, e⟩ := I.live a ha; ⟨o, hk a o (fun q => hθ a q ha) e⟩
 plain := I.plain
 rep := fun i a mo h1 h2 => (I.rep i a mo h1 h2).mono (Sub.refl _) (List.prefix_refl _) (fun o e => hk a o (fun q => hθ a q (List.mem_of_getElem? h1)) e) id
theorem Ext.other {W : List Addr} {h' : Heap} {t : Nat} (hk : ∀ b o, b ∉ W -> s.heap.get? b = some o -> h'.get? b = some o) (hl : ∀ b ∈ W, ∃ o, h'.get? b = some o) : Ext W G θ s G θ { s with heap := h', toks := t } :=
 ⟨Sub.refl _, List.prefix_refl _, ⟨_, _, rfl⟩, fun b _ hw o e => hk b o hw e, fun b o e => by
   by_cases hb : b ∈ W
   · exact hl b hb
   · exact ⟨o, hk b o hb e⟩, fun _ _ _ _ _ e => e, fun _ q _ _ => q⟩
theorem EnvRep.extW {W : List Addr} (R : EnvRep prog w G θ s.heap env fm) (x : Ext W G θ s G' θ' s') (hL : env.locals ∉ W) (hC : ∀ y c, (y, c) ∈ env.cells -> c ∉ W) : EnvRep prog w G' θ' s'.heap env fm where
 kind := R.kind
 glob := R.glob
 blt := R.blt
 kLoc := R.kLoc
 kCel := R.kCel
 kGlo := R.kGlo
 noCD := R.noCD
 loc := by
   obtain ⟨m, hn, hm⟩ := R.loc
   exact ⟨m, hn.at' fun o e => x.keep _ R.ownL.1 hL o e, fun y V hl hv => let ⟨v, a, b⟩ := hm y V hl hv; ⟨v, a, x.rv b⟩⟩
 cel := fun y V hk hv => by
   obtain ⟨c, v, h1, ⟨o, ho, hd⟩, h3⟩ := R.cel y V hk hv
   exact ⟨c, v, h1, ⟨o, x.keep _ (R.ownC y c (mem_of_lookup h1)).1.1 (hC y c (mem_of_lookup h1)) o ho, hd⟩, x.rv h3⟩
 ownL := by
   obtain ⟨m, ⟨o, _, _, ho, _⟩, _⟩ := R.loc
   refine ⟨fun q => R.ownL.1 (x.newT _ q _ ho), ?_⟩
   cases e : G'.get? env.locals with
   | none => rfl
   | some o' => have := x.newG _ _ _ ho R.ownL.1 e; rw [R.ownL.2] at this; exact no_some this
 ownC := fun y c hc => by
   obtain ⟨⟨h1, h2⟩, ob, h3⟩ := R.ownC y c hc
   refine ⟨⟨fun q => h1 (x.newT _ q _ h3), ?_⟩, x.live _ _ h3⟩
   cases e : G'.get? c with
   | none => rfl
   | some o' => have := x.newG _ _ _ h3 h1 e; rw [h2] at this; exact no_some this
theorem FrameRep.extW {W : List Addr} (R : FrameRep prog w G θ s.heap env fm) (x : Ext W G θ s G' θ' s') (hL : env.locals ∉ W) (hC : ∀ y c, (y, c) ∈ env.cells -> c ∉ W) : FrameRep prog w G' θ' s'.heap env fm :=
 ⟨R.rep.extW x hL hC, R.sc, R.bound, fun y c h => by
   obtain ⟨v, o, ho, hd⟩ := R.cells y c h
   exact ⟨v, o, x.keep _ (R.rep.ownC y c h).1.1 (hC y c h) o ho, hd⟩, R.apart, R.cL⟩
theorem FrameRep.ext (R : FrameRep prog w G θ s.heap env fm) (x : Ext [] G θ s G' θ' s') : FrameRep prog w G' θ' s'.heap env fm := R.extW x (by simp) (by simp)
theorem WF_locals (env : Env) : env.locals ∈ WF env := List.mem_cons_self
theorem WF_cell {env : Env} {y : Str} {c : Addr} (h : (y, c) ∈ env.cells) : c ∈ WF env := List.mem_cons_of_mem _ (List.mem_map.mpr ⟨(y, c), h, rfl⟩)
theorem EnvRep.setLocal {W : List Addr} {h' : Heap} {x : Str} {v : Value} {X : V} {m : Str -> Option Value} (R : EnvRep prog w G θ s.heap env ⟨sc, ρ⟩) (hx : sc.names.lookup x = some .local) (rv : RV prog w G θ v X)
   (hm : ∀ y V, sc.names.lookup y = some .local -> ρ.lookup y = some V -> ∃ v, m y = some v /\ RV prog w G θ v V)
   (hn : h'.Ns env.locals (fun y => if y = x then some v else m y)) (hs : Heap.SameBut env.locals s.heap h') (hcL : ∀ y c, (y, c) ∈ env.cells -> c ≠ env.locals) :
   EnvRep prog w G θ h' env ⟨sc, setL x X ρ⟩ where
 kind := R.kind
 glob := R.glob
 blt := R.blt
 kLoc := R.kLoc
 kCel := R.kCel
 kGlo := R.kGlo
 noCD := R.noCD
 loc := ⟨_, hn, fun y V hl hv => by
   rw [lookup_setL] at hv
   by_cases hy : y = x
   · rw [if_pos hy] at hv; (refine inj1 hv ?_; clear hv; rintro rfl); exact ⟨v, by simp [hy], rv⟩
   · rw [if_neg hy] at hv
     obtain ⟨u, h1, h2⟩ := hm y V hl hv
     exact ⟨u, by simp [hy, h1], h2⟩⟩
 cel := fun y V hk hv => by
   rw [lookup_setL] at hv
   have hy : y ≠ x := by rintro rfl; rcases hk with hk | hk <;> (simp only at hk; rw [hx] at hk; cases hk)
   rw [if_neg hy] at hv
   obtain ⟨c, u, h1, h2, h3⟩ := R.cel y V hk hv
   exact ⟨c, u, h1, h2.sameBut hs (hcL y c (mem_of_lookup h1)), h3⟩
 ownL := R.ownL
 ownC := fun y c hc => by
   obtain ⟨h1, o, h2⟩ := R.ownC y c hc
   exact ⟨h1, o, (hs.2 c (hcL y c hc)).trans h2⟩
theorem s_store {x : Str} {v : Value} {X : V} (I : Inv prog w base G θ s μ) (R : FrameRep prog w G θ s.heap env ⟨sc, ρ⟩) (hx : okN sc true x = true) (rv : RV prog w G θ v X) {Q : Unit -> Shared -> Prop}
   (hq : ∀ s', Ext (WF env) G θ s G θ s' -> Inv prog w base G θ s' μ -> FrameRep prog w G θ s'.heap env ⟨sc, setL x X ρ⟩ -> Q () s') : wpAny (model prog w) A (storeName env x v) Q no s := by
 have hk : ∀ y, env.kindOf y = sc.names.lookup y := fun y => by show env.scope.names.lookup y = _; rw [R.sc]
 refine of_okN hx (fun hl => ?_) fun _ hl => ?_
 · obtain ⟨m, hn, hm⟩ := R.rep.loc
   refine wpAny_storeName_local ((hk x).trans hl) hn (fun h' hn' hs' => ?_) (by rw [R.rep.kind]; rfl)
   have hlive : ∃ o, h'.get? env.locals = some o := let ⟨o, _, _, ho, _⟩ := hn'; ⟨o, ho⟩
   have hkp : ∀ b o, b ∉ [env.locals] -> s.heap.get? b = some o -> h'.get? b = some o := fun b o hb e => (hs'.2 b (by simpa using hb)).trans e
   refine hq _ ((Ext.other (W := [env.locals]) hkp (by simpa using hlive)).weaken (by simpa using WF_locals env)) (I.other hkp (by simpa using R.rep.ownL.1) (by simpa using R.rep.ownL.2)) ?_
   refine ⟨R.rep.setLocal (W := []) hl rv hm hn' hs' R.cL, R.sc, R.bound, fun y c h => ?_, R.apart, R.cL⟩
   obtain ⟨u, hu⟩ := R.cells y c h
   exact ⟨u, hu.sameBut hs' (R.cL y c h)⟩
 · obtain ⟨c, hc⟩ := R.bound x hl
   obtain ⟨v0, hv0⟩ := R.cells x c (mem_of_lookup hc)
   refine wpAny_storeName_cell R.rep.kind ((hk x).trans hl) hc hv0 (fun h' hc' hs' => ?_)
   have hlive : ∃ o, h'.get? c = some o := let ⟨o, ho, _⟩ := hc'; ⟨o, ho⟩
   have hkp : ∀ b o, b ∉ [c] -> s.heap.get? b = some o -> h'.get? b = some o := fun b o hb e => (hs'.2 b (by simpa using hb)).trans e
   have hown := R.rep.ownC x c (mem_of_lookup hc)
   refine hq _ ((Ext.other (t := s.toks) (W := [c]) hkp (by simpa using hlive)).weaken (by simpa using WF_cell (mem_of_lookup hc))) (I.other (t := s.toks) hkp (by simpa using hown.1.1) (by simpa using hown.1.2)) ?_
   have hLc : env.locals ≠ c := (R.cL x c (mem_of_lookup hc)).symm
   obtain ⟨m, hn, hm⟩ := R.rep.loc
   refine ⟨⟨R.rep.kind, R.rep.glob, R.rep.blt, R.rep.kLoc, R.rep.kCel, R.rep.kGlo, R.rep.noCD, ⟨m, hn.sameBut hs' hLc, fun y V h1 h2 => ?_⟩, fun y V h1 h2 => ?_, R.rep.ownL, fun y d hd => ?_⟩, R.sc, R.bound, fun y d hd => ?_, R.apart, R.cL⟩
   · rw [lookup_setL] at h2
     have hy : y ≠ x := by rintro rfl; simp only at h1; rw [hl] at h1; cases h1
     rw [if_neg hy] at h2
     exact hm y V h1 h2
   · rw [lookup_setL] at h2
     by_cases hy : y = x
     · rw [if_pos hy] at h2; (refine inj1 h2 ?_; clear h2; rintro rfl); subst hy
       exact ⟨c, v, hc, hc', rv⟩
     · rw [if_neg hy] at h2
       obtain ⟨d, u, g1, g2, g3⟩ := R.rep.cel y V h1 h2
       exact ⟨d, u, g1, g2.sameBut hs' (fun e => hy (R.apart y x c (mem_of_lookup (e ▸ g1)) (mem_of_lookup hc))), g3⟩
   · obtain ⟨g1, o, g2⟩ := R.rep.ownC y d hd
     by_cases e : d = c
     · subst e; exact ⟨g1, hlive⟩
     · exact ⟨g1, o, (hs'.2 d e).trans g2⟩
   · by_cases e : d = c
     · subst e; exact ⟨_, hc'⟩
     · obtain ⟨u, hu⟩ := R.cells y d hd
       exact ⟨u, hu.sameBut hs' e⟩
theorem s_assignN {x : Str} {p : Pos} {v : Value} {X : V} (I : Inv prog w base G θ s μ) (R : FrameRep prog w G θ s.heap env ⟨sc, ρ⟩) (hx : okN sc true x = true) (rv : RV prog w G θ v X) {Q : Unit -> Shared -> Prop}
   (hq : ∀ s', Ext (WF env) G θ s G θ s' -> Inv prog w base G θ s' μ -> FrameRep prog w G θ s'.heap env ⟨sc, setL x X ρ⟩ -> Q () s') : wpAny (model prog w) A (assign (.Name x p) env v) Q no s :=
 wpAny_assign_Name (s_store I R hx rv hq)
end
end Mine
end
section
namespace Mine
open PySem PySem.W PyProof.Rows PySem.Spec
section
variable {P : Par} {prog : Program} {w : World} {base G G' : Heap} {θ θ' : List Addr} {s s' : Shared} {μ μ' : Sto} {A : Around} {n : Nat} {r : Rec} {env : Env} {fm : Fm} {sc : Scope} {ρ : Loc}
structure CompRep (prog : Program) (w : World) (G : Heap) (θ : List Addr) (h : Heap) (env : Env) (fm : Fm) : Prop where
 rep : EnvRep prog w G θ h env fm
 cL : ∀ x c, (x, c) ∈ env.cells -> c ≠ env.locals
theorem CompRep.extW {W : List Addr} (R : CompRep prog w G θ s.heap env fm) (x : Ext W G θ s G' θ' s') (hL : env.locals ∉ W) (hC : ∀ y c, (y, c) ∈ env.cells -> c ∉ W) : CompRep prog w G' θ' s'.heap env fm := ⟨R.rep.extW x hL hC, R.cL⟩
theorem CompRep.ext (R : CompRep prog w G θ s.heap env fm) (x : Ext [] G θ s G' θ' s') : CompRep prog w G' θ' s'.heap env fm := R.extW x (by simp) (by simp)
theorem s_storeC {x : Str} {v : Value} {X : V} (I : Inv prog w base G θ s μ) (R : CompRep prog w G θ s.heap env ⟨sc, ρ⟩) (hx : okN sc false x = true) (rv : RV prog w G θ v X) {Q : Unit -> Shared -> Prop}
   (hq : ∀ s', Ext [env.locals] G θ s G θ s' -> Inv prog w base G θ s' μ -> CompRep prog w G θ s'.heap env ⟨sc, setL x X ρ⟩ -> Q () s') : wpAny (model prog w) A (storeName env x v) Q no s := by
 refine of_okN hx (fun hl => ?_) fun e _ => no_ft e
 · skip
   obtain ⟨m, hn, hm⟩ := R.rep.loc
   refine wpAny_storeName_local (R.rep.kLoc x hl) hn (fun h' hn' hs' => ?_) (by rw [R.rep.kind]; rfl)
   have hlive : ∃ o, h'.get? env.locals = some o := let ⟨o, _, _, ho, _⟩ := hn'; ⟨o, ho⟩
   have hkp : ∀ b o, b ∉ [env.locals] -> s.heap.get? b = some o -> h'.get? b = some o := fun b o hb e => (hs'.2 b (by simpa using hb)).trans e
   exact hq _ (Ext.other (W := [env.locals]) hkp (by simpa using hlive)) (I.other hkp (by simpa using R.rep.ownL.1) (by simpa using R.rep.ownL.2)) ⟨R.rep.setLocal (W := []) hl rv hm hn' hs' R.cL, R.cL⟩
end
end Mine
end
section
namespace Mine
open PySem PySem.W PyProof.Rows PySem.Spec
theorem WF_mem {env : Env} {b : Addr} (h : b ∈ WF env) : b = env.locals \/ ∃ y, (y, b) ∈ env.cells := by
 rcases List.mem_cons.mp h with rfl | h
 · exact .inl rfl
 · obtain ⟨⟨y, c⟩, hc, rfl⟩ := List.mem_map.mp h; exact .inr ⟨y, hc⟩
structure Frame (prog : Program) (w : World) (base : Heap) (env : Env) (sc : Scope) (c : Bool) (W : List Addr) (Rp : Heap -> List Addr -> Heap -> Loc -> Prop) : Prop where
 sub : ∀ b ∈ W, b ∈ WF env
 ext : ∀ {W' : List Addr} {G : Heap} {θ : List Addr} {s : Shared} {ρ : Loc} {G' : Heap} {θ' : List Addr} {s' : Shared}, Rp G θ s.heap ρ -> Ext W' G θ s G' θ' s' -> (∀ b ∈ WF env, b ∉ W') -> Rp G' θ' s'.heap ρ
 kept : ∀ {G : Heap} {θ : List Addr} {h h' : Heap} {ρ : Loc}, Rp G θ h ρ -> (∀ b ∈ WF env, ∀ o, h.get? b = some o -> h'.get? b = some o) -> Rp G θ h' ρ
 envr : ∀ {G : Heap} {θ : List Addr} {h : Heap} {ρ : Loc}, Rp G θ h ρ -> EnvRep prog w G θ h env ⟨sc, ρ⟩
 store : ∀ {A : Around} {G : Heap} {θ : List Addr} {s : Shared} {μ : Sto} {ρ : Loc} {x : Str} {v : Value} {X : V} {Q : Unit -> Shared -> Prop}, Inv prog w base G θ s μ -> Rp G θ s.heap ρ -> okN sc c x = true -> RV prog w G θ v X ->
   (∀ s', Ext W G θ s G θ s' -> Inv prog w base G θ s' μ -> Rp G θ s'.heap (setL x X ρ) -> Q () s') -> wpAny (model prog w) A (storeName env x v) Q no s
theorem EnvRep.own {prog : Program} {w : World} {G : Heap} {θ : List Addr} {h : Heap} {env : Env} {fm : Fm} (R : EnvRep prog w G θ h env fm) : ∀ b ∈ WF env, (b ∉ θ /\ G.get? b = none) /\ ∃ o, h.get? b = some o := by
 intro b hb
 rcases WF_mem hb with rfl | ⟨y, hy⟩
 · obtain ⟨m, ⟨o, _, _, ho, _⟩, _⟩ := R.loc
   exact ⟨R.ownL, o, ho⟩
 · exact R.ownC y b hy
theorem EnvRep.kept {prog : Program} {w : World} {G : Heap} {θ : List Addr} {h h' : Heap} {env : Env} {fm : Fm} (R : EnvRep prog w G θ h env fm) (hk : ∀ b ∈ WF env, ∀ o, h.get? b = some o -> h'.get? b = some o) : EnvRep prog w G θ h' env fm where
 kind := R.kind
 glob := R.glob
 blt := R.blt
 kLoc := R.kLoc
 kCel := R.kCel
 kGlo := R.kGlo
 noCD := R.noCD
 loc := let ⟨m, hn, hm⟩ := R.loc; ⟨m, hn.at' fun o e => hk _ (WF_locals env) o e, hm⟩
 cel := fun y V hq hv => let ⟨c, v, h1, ⟨o, ho, hd⟩, h3⟩ := R.cel y V hq hv; ⟨c, v, h1, ⟨o, hk _ (WF_cell (mem_of_lookup h1)) o ho, hd⟩, h3⟩
 ownL := R.ownL
 ownC := fun y c hc => let ⟨h1, o, h2⟩ := R.ownC y c hc; ⟨h1, o, hk _ (WF_cell hc) o h2⟩
theorem fnFrame (prog : Program) (w : World) (base : Heap) (env : Env) (sc : Scope) : Frame prog w base env sc true (WF env) (fun G θ h ρ => FrameRep prog w G θ h env ⟨sc, ρ⟩) where
 sub := fun _ h => h
 ext := fun R x h => R.extW x (h _ (WF_locals env)) fun y c hc => h _ (WF_cell hc)
 kept := fun R hk => ⟨R.rep.kept hk, R.sc, R.bound, fun y c h => let ⟨v, o, ho, hd⟩ := R.cells y c h; ⟨v, o, hk _ (WF_cell h) o ho, hd⟩, R.apart, R.cL⟩
 envr := fun R => R.rep
 store := fun I R hx rv hq => s_store I R hx rv hq
theorem compFrame (prog : Program) (w : World) (base : Heap) (env : Env) (sc : Scope) : Frame prog w base env sc false [env.locals] (fun G θ h ρ => CompRep prog w G θ h env ⟨sc, ρ⟩) where
 sub := by simpa using WF_locals env
 ext := fun R x h => R.extW x (h _ (WF_locals env)) fun y c hc => h _ (WF_cell hc)
 kept := fun R hk => ⟨R.rep.kept hk, R.cL⟩
 envr := fun R => R.rep
 store := fun I R hx rv hq => s_storeC I R hx rv hq
section
variable {P : Par} {prog : Program} {w : World} {base G G' : Heap} {θ θ' : List Addr} {s s' : Shared} {μ μ' : Sto} {A : Around} {n : Nat} {r : Rec} {env : Env} {fm : Fm} {sc : Scope} {ρ ρ' : Loc} {c : Bool} {W : List Addr}
 {Rp : Heap -> List Addr -> Heap -> Loc -> Prop}
noncomputable def ItemIs (G h : Heap) (tgt : Expr) (v : Value) (x : PyData) : Prop :=
 if isPairT tgt = true then ∀ u1 u2, x = .tuple [u1, u2] -> ∃ T a b as bs, v = .ref T /\ h.IsTuple T #[a, b] /\ Reads G a u1 as /\ Reads G b u2 bs else ∃ as, Reads G v x as
theorem ItemIs.of_reads {h : Heap} {tgt : Expr} {v : Value} {x : PyData} {as : List Addr} (hs : Sub G h) (r : Reads G v x as) : ItemIs G h tgt v x := by
 unfold ItemIs
 split
 · rintro u1 u2 rfl
   refine of_tup r ?_; clear r; rintro a o vs n rfl h1 h2 h3 h4
   obtain ⟨vs⟩ := vs
   cases h4 with
   | cons r1 r2 => cases r2 with
     | cons r2 r3 => cases r3 with
       | nil => exact ⟨a, _, _, _, _, rfl, ⟨o, hs _ _ h1, h2, n, h3⟩, r1, r2⟩
 · exact ⟨as, r⟩
theorem bindT_inv {sc : Scope} {c : Bool} {tgt : Expr} {x : PyData} {ρ ρ' : Loc} (h : bindT sc c tgt x ρ = some ρ') :
   (∃ n p, tgt = .Name n p /\ (okN sc c n && (c || (ρ.lookup n).isNone)) = true /\ setL n (.d x) ρ = ρ') \/
   ∃ na pa nb pb k p u1 u2, tgt = .Tuple [.Name na pa, .Name nb pb] k p /\ x = .tuple [u1, u2] /\ (na != nb && okN sc c na && okN sc c nb && (c || ((ρ.lookup na).isNone && (ρ.lookup nb).isNone))) = true /\ setL nb (.d u2) (setL na (.d u1) ρ) = ρ' := by
 unfold bindT at h
 cases hn : nameOf tgt with
 | some n => rw [hn] at h; exact if_some h fun hk h => (of_nameE hn).elim fun p e => .inl ⟨n, p, e, hk, Option.some.inj h⟩
 | none =>
   rw [hn] at h
   exact bind1 h fun ab h1 h => bind1 h fun q h2 h => bind1 h2 fun us h3 h4 => if_some h fun hk h => (of_pairE h1).elim fun p1 e => e.elim fun p2 e => e.elim fun k e => e.elim fun p e =>
     .inr ⟨_, p1, _, p2, k, p, q.1, q.2, e, (of_tupD h3).trans (congrArg PyData.tuple (of_two h4)), hk, Option.some.inj h⟩
theorem s_assignT {tgt : Expr} {v : Value} {x : PyData} (hh : A.handled = none) (F : Frame prog w base env sc c W Rp) (I : Inv prog w base G θ s μ) (R : Rp G θ s.heap ρ) (h : bindT sc c tgt x ρ = some ρ') (hi : ItemIs G s.heap tgt v x) {Q : Unit -> Shared -> Prop}
   (hq : ∀ s', Ext W G θ s G θ s' -> Inv prog w base G θ s' μ -> Rp G θ s'.heap ρ' -> Q () s') : wpAny (model prog w) A (assign tgt env v) Q no s := by
 rcases bindT_inv h with ⟨n, p, rfl, hx, rfl⟩ | ⟨na, pa, nb, pb, k, p, u1, u2, rfl, rfl, hk, rfl⟩
 · simp only [Bool.and_eq_true] at hx
   obtain ⟨as, r1⟩ : ∃ as, Reads G v x as := hi
   exact wpAny_assign_Name (F.store I R hx.1 (.d r1) hq)
 · · simp only [Bool.and_eq_true, bne_iff_ne, ne_eq] at hk
     obtain ⟨T, a, b, as, bs, rfl, hT, r1, r2⟩ := hi u1 u2 rfl
     refine wpAny_assign_Tuple hh hT rfl rfl fun h' he => ?_
     have hkp : ∀ b o, s.heap.get? b = some o -> h'.get? b = some o := fun b o e => he b o (Nat.ne_of_lt (Heap.lt_size e)) e
     have e1 : Ext [] G θ s G θ { s with heap := h' } := Ext.grow (t := s.toks) hkp
     have I1 : Inv prog w base G θ { s with heap := h' } μ := I.grow hkp
     have R1 := F.ext R e1 (by simp)
     show wpAny _ _ (assignInOrder [assign (.Name na pa) env, assign (.Name nb pb) env] [a, b]) _ _ _
     refine wpAny_assignInOrder_more (wpAny_assign_Name (F.store I1 R1 hk.1.1.2 (.d r1) fun s2 e2 I2 R2 => ?_))
     refine wpAny_assignInOrder_more (wpAny_assign_Name (F.store I2 R2 hk.1.2 (.d r2) fun s3 e3 I3 R3 => ?_))
     exact wpAny_assignInOrder_none (hq s3 (((e1.weaken fun _ q => nomatch q).trans e2).trans e3) I3 R3)
structure Feed (prog : Program) (w : World) (A : Around) (tgt : Expr) (I : Addr) (G : Heap) (h s₀ : Heap) (xs : List PyData) (fp wr : List Addr) (P Md : Nat -> Value -> Heap -> Prop) (St : Nat -> Heap -> Prop) : Prop where
 turns : KTurns prog w A tgt I fp wr xs.length P Md St
 st : St 0 h
 item : ∀ i v h x, Sub G h -> P i v h -> xs[i]? = some x -> ItemIs G h tgt v x
 fpOk : ∀ b ∈ fp, (∃ o, G.get? b = some o) \/ (s₀.get? b = none /\ ∃ o, h.get? b = some o)
 wrNew : ∀ b ∈ wr, s₀.get? b = none /\ ∃ o, h.get? b = some o
 wrLive : ∀ i h, St i h -> ∀ b ∈ wr, ∃ o, h.get? b = some o
 self : ∀ i (s : Shared) (Q : Value -> Shared -> Prop) (E : Value -> Shared -> Prop), St i s.heap -> Q (.ref I) s -> wpAny (model prog w) A (pyIter (.ref I)) Q E s
structure Turn (prog : Program) (w : World) (base : Heap) (env : Env) (G₀ : Heap) (θ₀ : List Addr) (s₀ : Shared) (fp wr : List Addr) (St : Nat -> Heap -> Prop) (Rp : Heap -> List Addr -> Heap -> Loc -> Prop)
   (i : Nat) (G : Heap) (θ : List Addr) (μ : Sto) (ρ : Loc) (X : List Addr) (s : Shared) : Prop where
 x : Ext (X ++ wr) G₀ θ₀ s₀ G θ s
 inv : Inv prog w base G θ s μ
 rep : Rp G θ s.heap ρ
 st : St i s.heap
 fpOk : ∀ b ∈ fp, (∃ o, G.get? b = some o) \/ (b ∉ θ /\ b ∉ WF env /\ b ∉ X /\ ∃ o, s.heap.get? b = some o)
 wrOk : ∀ b ∈ wr, b ∉ θ /\ G.get? b = none /\ b ∉ WF env /\ b ∉ X
 wrLive : ∀ b ∈ wr, ∃ o, s.heap.get? b = some o
theorem Turn.next {tgt : Expr} {Ia : Addr} {xs : List PyData} {h₀ : Heap} {G₀ : Heap} {θ₀ : List Addr} {s₀ : Shared} {fp wr X : List Addr} {P Md : Nat -> Value -> Heap -> Prop} {St : Nat -> Heap -> Prop} {i : Nat} {x : PyData}
   (Fd : Feed prog w A tgt Ia G₀ h₀ s₀.heap xs fp wr P Md St) (F : Frame prog w base env sc c W Rp) (T : Turn prog w base env G₀ θ₀ s₀ fp wr St Rp i G θ μ ρ X s) (hx : xs[i]? = some x) {Q : Option Value -> Shared -> Prop}
   (hq : ∀ v s1, (∀ (Q : Unit -> Shared -> Prop), (∀ s2, Turn prog w base env G₀ θ₀ s₀ fp wr St Rp (i + 1) G θ μ ρ X s2 -> ItemIs G s2.heap tgt v x -> Ext wr G θ s G θ s2 -> Q () s2) -> wpAny (model prog w) A (letOwnedTupleGo tgt (.ref Ia) v) Q no s1) -> Q (some v) s1) :
   wpAny (model prog w) A (pyNext (.ref Ia)) Q no s := by
 have hi : i < xs.length := (List.getElem?_eq_some_iff.mp hx).1
 refine Fd.turns.item i s _ _ hi T.st fun v h1 tk hm hk => hq v _ fun Q hQ => ?_
 refine Fd.turns.go i v _ _ _ hm fun h2 hP hst hk2 => ?_
 have hkk : ∀ b o, b ∉ wr -> s.heap.get? b = some o -> h2.get? b = some o := fun b o hb e => hk2 b o hb (hk b o hb e)
 have hlive := Fd.wrLive _ _ hst
 have e1 : Ext wr G θ s G θ { s with heap := h2, toks := tk } := Ext.other hkk hlive
 have I1 : Inv prog w base G θ { s with heap := h2, toks := tk } μ := T.inv.other hkk (fun b hb => (T.wrOk b hb).1) fun b hb => (T.wrOk b hb).2.1
 refine hQ _ ⟨T.x.trans (e1.weaken fun b hb => List.mem_append_right _ hb), I1, F.ext T.rep e1 fun b hb hw => (T.wrOk b hw).2.2.1 hb, hst, fun b hb => ?_, T.wrOk, hlive⟩ ?_ e1
 · rcases T.fpOk b hb with h | ⟨g1, g2, g3, o, g4⟩
   · exact .inl h
   · refine .inr ⟨g1, g2, g3, ?_⟩
     by_cases hw : b ∈ wr
     · exact hlive b hw
     · exact ⟨o, hkk b o hw g4⟩
 · have := Fd.item i v h2 x (fun b o e => I1.sub _ _ (T.x.g _ _ e)) hP hx
   unfold ItemIs at this ⊢
   split
   · rename_i hp
     rw [if_pos hp] at this
     intro u1 u2 e
     obtain ⟨T', a, b, as, bs, q1, q2, q3, q4⟩ := this u1 u2 e
     exact ⟨T', a, b, as, bs, q1, q2, Reads.keeps T.x.g q3, Reads.keeps T.x.g q4⟩
   · rename_i hp
     rw [if_neg hp] at this
     obtain ⟨as, q⟩ := this
     exact ⟨as, Reads.keeps T.x.g q⟩
theorem Turn.ran {G₀ : Heap} {θ₀ : List Addr} {s₀ : Shared} {fp wr X : List Addr} {St : Nat -> Heap -> Prop} {i : Nat} {μ' : Sto} {ρ' : Loc}
   (fr : ∀ i h h', St i h -> (∀ b ∈ fp, ∀ o, h.get? b = some o -> h'.get? b = some o) -> St i h') (T : Turn prog w base env G₀ θ₀ s₀ fp wr St Rp i G θ μ ρ X s) {Y : List Addr} (hY : ∀ b ∈ Y, b ∈ WF env \/ b ∈ X) (hYX : ∀ b ∈ Y, b ∈ X \/ s₀.heap.get? b = none)
   (e : Ext Y G θ s G' θ' s') (I : Inv prog w base G' θ' s' μ') (R : Rp G' θ' s'.heap ρ') : Turn prog w base env G₀ θ₀ s₀ fp wr St Rp i G' θ' μ' ρ' X s' := by
 have hdis : ∀ b, b ∉ WF env -> b ∉ X -> b ∉ Y := fun b h1 h2 h3 => (hY b h3).elim h1 h2
 refine ⟨?_, I, R, ?_, fun b hb => ?_, fun b hb => ?_, fun b hb => ?_⟩
 · have := (T.x.weaken (W' := (X ++ wr) ++ Y) fun b hb => List.mem_append_left _ hb).trans (e.weaken fun b hb => List.mem_append_right _ hb)
   refine this.fresh fun b hb => ?_
   rcases List.mem_append.mp hb with h | h
   · exact .inl h
   · rcases hYX b h with h | h
     · exact .inl (List.mem_append_left _ h)
     · exact .inr h
 · refine fr i _ _ T.st fun b hb o ho => ?_
   rcases T.fpOk b hb with ⟨o', g⟩ | ⟨g1, g2, g3, _⟩
   · have h1 := T.inv.sub _ _ g
     rw [h1] at ho; (refine inj1 ho ?_; clear ho; rintro rfl)
     exact I.sub _ _ (e.g _ _ g)
   · exact e.keep b g1 (hdis b g2 g3) o ho
 · rcases T.fpOk b hb with ⟨o', g⟩ | ⟨g1, g2, g3, o, g4⟩
   · exact .inl ⟨o', e.g _ _ g⟩
   · exact .inr ⟨fun q => g1 (e.newT b q o g4), g2, g3, o, e.keep b g1 (hdis b g2 g3) o g4⟩
 · obtain ⟨g1, g2, g3, g4⟩ := T.wrOk b hb
   obtain ⟨o, ho⟩ := T.wrLive b hb
   refine ⟨fun q => g1 (e.newT b q o ho), ?_, g3, g4⟩
   cases hg : G'.get? b with
   | none => rfl
   | some o' => have := e.newG b o o' ho g1 hg; rw [g2] at this; exact no_some this
 · obtain ⟨o, ho⟩ := T.wrLive b hb
   exact e.live b o ho
theorem Ext.last {W W' : List Addr} {h' : Heap} {t : Nat} {s₀ : Shared} {wr : List Addr} (x : Ext W G θ s₀ G' θ' s) (hk : ∀ b o, b ∉ wr -> s.heap.get? b = some o -> h'.get? b = some o) (hn : ∀ b ∈ wr, s₀.heap.get? b = none) (hW : ∀ b ∈ W, b ∈ W' \/ s₀.heap.get? b = none) :
   Ext W' G θ s₀ G' θ' { s with heap := h', toks := t } where
 g := x.g
 th := x.th
 same := let ⟨h, tk, e⟩ := x.same; ⟨h', t, by rw [e]⟩
 keep := fun b hb hw o e => by
   have hnw : b ∉ wr := fun q => by rw [hn b q] at e; exact no_some e
   exact hk b o hnw (x.keep b hb (fun q => (hW b q).elim hw fun l => by rw [l] at e; exact no_some e) o e)
 live := fun b o e => by
   have hnw : b ∉ wr := fun q => by rw [hn b q] at e; exact no_some e
   obtain ⟨o', e'⟩ := x.live b o e
   exact ⟨o', hk b o' hnw e'⟩
 newG := x.newG
 newT := x.newT
theorem forM_cons {tgt : Expr} {body : List Stmt} {x : PyData} {xs : List PyData} {fl : Flw} (h : forM r sc tgt body (x :: xs) ρ μ = some (fl, ρ', μ')) :
   ∃ ρ1 fl1 ρ2 μ2, bindT sc true tgt x ρ = some ρ1 /\ r.exs sc body ρ1 μ = some (fl1, ρ2, μ2) /\ match fl1 with
     | .next => forM r sc tgt body xs ρ2 μ2 = some (fl, ρ', μ')
     | .ret v => fl = .ret v /\ ρ2 = ρ' /\ μ2 = μ' := by
 exact bind1 h fun ρ1 h1 h => bind3 h fun fl1 ρ2 μ2 h2 h3 => ⟨ρ1, fl1, ρ2, μ2, h1, h2, by
   cases fl1 with
   | next => exact h3
   | ret v => exact inj3 h3 fun a b c => ⟨a.symm, b, c⟩⟩
noncomputable def ForAt (prog : Program) (w : World) (base : Heap) (env : Env) (r : Rec) (sc : Scope) (tgt : Expr) (body : List Stmt) (xs : List PyData) (z : Flw × Loc × Sto) (G : Heap) (θ : List Addr) (s₀ : Shared) (fp wr : List Addr) (St : Nat -> Heap -> Prop) (k : Nat) (s1 : Shared) : Prop :=
 ∃ i G1 θ1 μ1 ρ1, k = xs.length + 1 - i /\ i <= xs.length /\ forM r sc tgt body (xs.drop i) ρ1 μ1 = some z /\ Turn prog w base env G θ s₀ fp wr St (fun G θ h ρ => FrameRep prog w G θ h env ⟨sc, ρ⟩) i G1 θ1 μ1 ρ1 (WF env) s1
theorem s_forLoop {tgt : Expr} {Ia : Addr} {xs : List PyData} {body : List Stmt} {fl : Flw} {s₀ : Shared} {fp wr : List Addr} {P Md : Nat -> Value -> Heap -> Prop} {St : Nat -> Heap -> Prop} (hx : SExs prog w base r n) (hroom : Room A n)
   (I : Inv prog w base G θ s₀ μ) (R : FrameRep prog w G θ s₀.heap env ⟨sc, ρ⟩) (hs : ∃ h t, s = { s₀ with heap := h, toks := t }) (hkp : ∀ b o, s₀.heap.get? b = some o -> s.heap.get? b = some o)
   (Fd : Feed prog w A tgt Ia G s.heap s₀.heap xs fp wr P Md St) (h : forM r sc tgt body xs ρ μ = some (fl, ρ', μ')) :
   codeAny (model prog w) A (.forLoop tgt (.ref Ia) body [] env) (fun q s' => ∃ f, q = .ok f /\ PostX prog w base G θ s₀ μ' env sc ρ' fl f s') s := by
 have F := fnFrame prog w base env sc
 have hh := hroom.hand
 have own := R.rep.own
 refine codeAny_forLoop_any (ForAt prog w base env r sc tgt body xs (fl, ρ', μ') G θ s₀ fp wr St) ?_ (xs.length + 1)
   ⟨0, G, θ, μ, ρ, by simp, Nat.zero_le _, by simpa using h, ?_⟩
 · rintro k s1 ⟨i, G1, θ1, μ1, ρ1, rfl, hi, hf, T⟩
   rcases Nat.lt_or_ge i xs.length with hlt | hge
   · have hd : xs.drop i = xs[i] :: xs.drop (i + 1) := List.drop_eq_getElem_cons hlt
     rw [hd] at hf
     obtain ⟨ρ2, fl1, ρ3, μ3, h1, h2, h3⟩ := forM_cons hf
     refine no_any (T.next Fd F (List.getElem?_eq_getElem hlt) fun v s2 hgo => ?_)
     refine no_any (hgo _ fun s3 T3 hit _ => ?_)
     refine no_any (s_assignT hh F T3.inv T3.rep h1 hit fun s4 e4 I4 R4 => ?_)
     have T4 := T3.ran Fd.turns.frame (fun b hb => .inl hb) (fun b hb => .inl hb) e4 I4 R4
     refine no_any (wpAny_mono (hx A _ _ s4 _ env sc ρ2 body fl1 ρ3 μ3 hroom I4 R4 h2) (fun f s5 p => ?_) fun _ _ q => q)
     obtain ⟨G5, θ5, e5, I5, R5, hfl⟩ := p
     have T5 := T4.ran Fd.turns.frame (fun b hb => .inl hb) (fun b hb => .inl hb) e5 I5 R5
     cases fl1 with
     | next =>
       subst hfl
       exact ⟨xs.length + 1 - (i + 1), by omega, i + 1, G5, θ5, μ3, ρ3, rfl, hlt, h3, T5⟩
     | ret V =>
       obtain ⟨v', rfl, rv⟩ := hfl
       obtain ⟨rfl, rfl, rfl⟩ := h3
       refine ⟨_, rfl, G5, θ5, T5.x.fresh fun b hb => ?_, I5, R5, v', rfl, rv⟩
       rcases List.mem_append.mp hb with q | q
       · exact .inl q
       · exact .inr (Fd.wrNew b q).1
   · have hin : i = xs.length := Nat.le_antisymm hi hge
     subst hin
     rw [List.drop_length] at hf
     cases hf
     refine Fd.turns.done s1 _ _ T.st fun h' tk hk => wpAny_execs_nil ?_
     have hkW : ∀ b o, b ∉ wr -> s1.heap.get? b = some o -> h'.get? b = some o := hk
     have I' : Inv prog w base G1 θ1 { s1 with heap := h', toks := tk } μ' := T.inv.other hkW (fun b hb => (T.wrOk b hb).1) fun b hb => (T.wrOk b hb).2.1
     refine ⟨_, rfl, G1, θ1, T.x.last hkW (fun b hb => (Fd.wrNew b hb).1) fun b hb => ?_, I', ?_, rfl⟩
     · rcases List.mem_append.mp hb with q | q
       · exact .inl q
       · exact .inr (Fd.wrNew b q).1
     · exact F.kept T.rep fun b hb o e => hkW b o (fun q => (T.wrOk b q).2.2.1 hb) e
 · obtain ⟨h', t, rfl⟩ := hs
   have I1 : Inv prog w base G θ { s₀ with heap := h', toks := t } μ := I.grow hkp
   have e1 : Ext [] G θ s₀ G θ { s₀ with heap := h', toks := t } := Ext.grow hkp
   refine ⟨e1.weaken (fun _ q => nomatch q), I1, F.ext R e1 (by simp), Fd.st, fun b hb => ?_, fun b hb => ?_, fun b hb => (Fd.wrNew b hb).2⟩
   · rcases Fd.fpOk b hb with q | ⟨q1, q2⟩
     · exact .inl q
     · refine .inr ⟨fun q => ?_, fun q => ?_, fun q => ?_, q2⟩
       · obtain ⟨o, e⟩ := I.live b q; rw [q1] at e; exact no_some e
       · obtain ⟨_, o, e⟩ := own b q; rw [q1] at e; exact no_some e
       · obtain ⟨_, o, e⟩ := own b q; rw [q1] at e; exact no_some e
   · have q1 := (Fd.wrNew b hb).1
     refine ⟨fun q => ?_, I.gnone' q1, fun q => ?_, fun q => ?_⟩
     · obtain ⟨o, e⟩ := I.live b q; rw [q1] at e; exact no_some e
     · obtain ⟨_, o, e⟩ := own b q; rw [q1] at e; exact no_some e
     · obtain ⟨_, o, e⟩ := own b q; rw [q1] at e; exact no_some e
end
end Mine
end
end
section
namespace Mine
open PySem PySem.W PyProof.Rows PySem.Spec
theorem meets_enum_tuple (l : Addr) (items : Array Value) (n : Nat) (dct : Option Addr) (sl : Array (Option Value)) :
   Meets (Builtin.«enumerate.__new__» ⟨[.type "enumerate", .ref l], []⟩) (fun _ R s => s.heap.get? l = some { cls := .type "tuple", dict := dct, data := .seq items n, slots := sl } /\
     R (.ok (.ret (.ref (s.heap.push { cls := .type "tuple_iterator", data := .fields #[.ref l, .int 0 0] }).objs.size)))
       { s with heap := (s.heap.push { cls := .type "tuple_iterator", data := .fields #[.ref l, .int 0 0] }).push { cls := .type "enumerate", data := .fields #[.none, .bool false, .ref s.heap.objs.size, rawInt 0, .none, .none] } }) :=
 .of_wp fun prog w A R s h => by
   obtain ⟨hp, g, d, tk, os⟩ := s; obtain ⟨hl, h⟩ := h
   have hsub := sub_enumerate
   have hL : Heap.IsTuple (Shared.heap ⟨hp, g, d, tk, os⟩) l items := ⟨_, hl, rfl, n, rfl⟩
   wp_walk using PySem.AutoSeq1.wpAny_loadPart' hl
   refine wpAny_stack_any fun st => wpAny_pure ?_
   split
   · rename_i c _ _ _ _ _
     cases (c == Value.type "enumerate")
     · wp_walk using PySem.AutoSeq1.wpAny_loadPart' hl, wpAny_pyIter_tuple hL
       exact ⟨_, rfl, h⟩
     · wp_walk using PySem.AutoSeq1.wpAny_loadPart' hl, wpAny_pyIter_tuple hL
       exact ⟨_, rfl, h⟩
   · wp_walk using PySem.AutoSeq1.wpAny_loadPart' hl, wpAny_pyIter_tuple hL
     exact ⟨_, rfl, h⟩
noncomputable abbrev tupIt (l : Addr) : Obj := { cls := .type "tuple_iterator", data := .fields #[.ref l, .int 0 0] }
noncomputable abbrev pairO (a b : Value) : Obj := { cls := .type "tuple", data := .seq #[a, b] }
noncomputable abbrev zipO (a b : Addr) : Obj := { cls := .type "zip", data := .fields #[.none, .bool false, .bool false, .ref a, .ref b] }
noncomputable abbrev zipHeap (h : Heap) (l1 l2 : Addr) : Heap :=
 ((((h.push (tupIt l1)).push (tupIt l2)).push (pairO (.ref h.objs.size) (.ref (h.objs.size + 1)))).push (pairO .none .none)).push (zipO (h.objs.size + 2) (h.objs.size + 3))
theorem meets_zip_tuples (l1 l2 : Addr) (xs ys : Array Value) :
   Meets (Builtin.«zip.__new__» ⟨[.type "zip", .ref l1, .ref l2], []⟩) (fun _ R s => s.heap.IsTuple l1 xs /\ s.heap.IsTuple l2 ys /\
     R (.ok (.ret (.ref (s.heap.objs.size + 4)))) { s with heap := zipHeap s.heap l1 l2 }) :=
 .of_wp fun prog w A R s h => by
   obtain ⟨hp, g, d, tk, os⟩ := s; obtain ⟨hl1, hl2, h⟩ := h
   have hsub := sub_zip
   have hL1 : Heap.IsTuple (Shared.heap ⟨hp, g, d, tk, os⟩) l1 xs := hl1
   have hL2 : Heap.IsTuple (Shared.heap ⟨hp.push { cls := .type "tuple_iterator", data := .fields #[.ref l1, .int 0 0] }, g, d, tk, os⟩) l2 ys := Heap.IsTuple.push hl2 _
   have z1 : ∀ o, (hp.push o).objs.size = hp.objs.size + 1 := fun o => Heap.size_push ..
   have z2 : ∀ o p, ((hp.push o).push p).objs.size = hp.objs.size + 2 := fun o p => by rw [Heap.size_push, z1]
   have z3 : ∀ o p q, (((hp.push o).push p).push q).objs.size = hp.objs.size + 3 := fun o p q => by rw [Heap.size_push, z2]
   have z4 : ∀ o p q r, ((((hp.push o).push p).push q).push r).objs.size = hp.objs.size + 4 := fun o p q r => by rw [Heap.size_push, z3]
   wp_walk using wpAny_pyIter_tuple hL1, wpAny_pyIter_tuple hL2
   simp only [z1, z2, z3, z4]
   exact ⟨_, rfl, h⟩
section
variable {P : Par} {prog : Program} {w : World} {base G G' : Heap} {θ θ' : List Addr} {s s' : Shared} {μ μ' : Sto} {A : Around} {n : Nat} {r : Rec} {env : Env} {fm : Fm}
theorem letGo_plain {target : Expr} {I : Addr} {v : Value} {o : Obj} {T : String} {Q : Unit -> Shared -> Prop} {E : Value -> Shared -> Prop} (ho : s.heap.get? I = some o) (hc : o.cls = .type T)
   (hT : ["enumerate", "zip", "dict_itemiterator", "dict_reverseitemiterator", "odict_iterator", "itertools.zip_longest", "itertools.pairwise"].contains T = false) (h : Q () s) :
   wpAny (model prog w) A (letOwnedTupleGo target (.ref I) v) Q E s := by
 have main : ∀ a, wpAny (model prog w) A (do
     let o <- load I
     match o.cls, o.data with
     | .type n, .fields vs =>
       if ["enumerate", "zip", "dict_itemiterator", "dict_reverseitemiterator", "odict_iterator", "itertools.zip_longest", "itertools.pairwise"].contains n && vs[0]? == some (rawInt a) then
         rule "for.unpacks-the-owned-tuple"
         updateField I 0 .none
     | _, _ => pure ()) Q E s := by
   intro a
   refine wpAny_bind (wpAny_load ho ?_)
   rw [hc]
   cases hd : o.data <;> simp only [] <;> first
     | exact wpAny_pure h
     | (rw [hT, Bool.false_and, if_neg Bool.false_ne_true]; exact wpAny_pure h)
 cases target with
 | Tuple l k p => cases v <;> first | exact wpAny_pure h | exact main _
 | List l p => cases v <;> first | exact wpAny_pure h | exact main _
 | _ => exact wpAny_pure h
noncomputable def FeedPost (prog : Program) (w : World) (base : Heap) (A : Around) (tgt : Expr) (G : Heap) (θ : List Addr) (s : Shared) (μ' : Sto) (l : List PyData) (it : Value) (s2 : Shared) : Prop :=
 ∃ G1 θ1 s1 Ia fp wr P Md St, it = .ref Ia /\ Ext [] G θ s G1 θ1 s1 /\ Inv prog w base G1 θ1 s1 μ' /\ (∃ h t, s2 = { s1 with heap := h, toks := t }) /\ (∀ b o, s1.heap.get? b = some o -> s2.heap.get? b = some o) /\
   Feed prog w A tgt Ia G1 s2.heap s1.heap l fp wr P Md St
theorem feed_list {tgt : Expr} {v : Value} {l : List PyData} {as : List Addr} (hh : A.handled = none) (I : Inv prog w base G θ s μ) (hr : Reads G v (.list l) as) :
   wpAny (model prog w) A (pyIter v) (FeedPost prog w base A tgt G θ s μ l) no s := by
 refine of_list hr ?_; clear hr; rintro a o vs n bs rfl h1 h2 h3 h4
 have hL : s.heap.IsList a vs := ⟨o, I.sub _ _ h1, h2, n, h3⟩
 have hlt : a < s.heap.objs.size := Heap.lt_size (I.sub _ _ h1)
 have hl : vs.size = l.length := by have := ReadsAll.len h4; simpa using this
 refine wpAny_pyIter_list hL ?_
 have W := Walks.list (prog := prog) (w := w) hh s.heap.objs.size a (Nat.ne_of_lt hlt) vs
 rw [hl] at W
 refine ⟨G, θ, s, s.heap.objs.size, _, _, _, _, _, rfl, Ext.refl _ _ _ _, I, ⟨_, s.toks, rfl⟩, fun b x e => Heap.get?_push_of_some _ e,
   KTurns.ofWalks W (fun i v s' Q E st hq => by obtain ⟨⟨o, ho, hc, _⟩, _⟩ := st; exact letGo_plain ho hc (by decide) hq), ⟨⟨_, Heap.get?_push_size _ rfl, rfl, rfl⟩, hL.push _⟩, fun i v h x hs hP hx => ?_, fun b hb => ?_, fun b hb => ?_, fun i h st b hb => ?_, W.self⟩
 · obtain ⟨cs, q⟩ := readsAll_at (v := v) h4 (by simpa using hP) hx
   exact ItemIs.of_reads hs q
 · simp only [List.mem_cons, List.not_mem_nil, or_false] at hb
   rcases hb with rfl | rfl
   · exact .inr ⟨none_of_ge (Nat.le_refl _), _, Heap.get?_push_size _ rfl⟩
   · exact .inl ⟨o, h1⟩
 · simp only [List.mem_cons, List.not_mem_nil, or_false] at hb
   subst hb
   exact ⟨none_of_ge (Nat.le_refl _), _, Heap.get?_push_size _ rfl⟩
 · simp only [List.mem_cons, List.not_mem_nil, or_false] at hb
   subst hb
   obtain ⟨⟨o, ho, _⟩, _⟩ := st; exact ⟨o, ho⟩
theorem feed_tuple {tgt : Expr} {v : Value} {l : List PyData} {as : List Addr} (hh : A.handled = none) (I : Inv prog w base G θ s μ) (hr : Reads G v (.tuple l) as) :
   wpAny (model prog w) A (pyIter v) (FeedPost prog w base A tgt G θ s μ l) no s := by
 refine of_tup hr ?_; clear hr; rintro a o vs n rfl h1 h2 h3 h4
 have hL : s.heap.IsTuple a vs := ⟨o, I.sub _ _ h1, h2, n, h3⟩
 have hlt : a < s.heap.objs.size := Heap.lt_size (I.sub _ _ h1)
 have hl : vs.size = l.length := by have := ReadsAll.len h4; simpa using this
 refine wpAny_pyIter_tuple hL ?_
 have W := Walks.tuple (prog := prog) (w := w) hh s.heap.objs.size a (Nat.ne_of_lt hlt) vs
 rw [hl] at W
 refine ⟨G, θ, s, s.heap.objs.size, _, _, _, _, _, rfl, Ext.refl _ _ _ _, I, ⟨_, s.toks, rfl⟩, fun b x e => Heap.get?_push_of_some _ e,
   KTurns.ofWalks W (fun i v s' Q E st hq => by obtain ⟨⟨o, ho, hc, _⟩, _⟩ := st; exact letGo_plain ho hc (by decide) hq), ⟨⟨_, Heap.get?_push_size _ rfl, rfl, rfl⟩, hL.push _⟩, fun i v h x hs hP hx => ?_, fun b hb => ?_, fun b hb => ?_, fun i h st b hb => ?_, W.self⟩
 · obtain ⟨cs, q⟩ := readsAll_at (v := v) h4 (by simpa using hP) hx
   exact ItemIs.of_reads hs q
 · simp only [List.mem_cons, List.not_mem_nil, or_false] at hb
   rcases hb with rfl | rfl
   · exact .inr ⟨none_of_ge (Nat.le_refl _), _, Heap.get?_push_size _ rfl⟩
   · exact .inl ⟨o, h1⟩
 · simp only [List.mem_cons, List.not_mem_nil, or_false] at hb
   subst hb
   exact ⟨none_of_ge (Nat.le_refl _), _, Heap.get?_push_size _ rfl⟩
 · simp only [List.mem_cons, List.not_mem_nil, or_false] at hb
   subst hb
   obtain ⟨⟨o, ho, _⟩, _⟩ := st; exact ⟨o, ho⟩
theorem rangeD_get (n : Nat) : ∀ (k i : Nat) (x : PyData), (rangeD n k)[i]? = some x -> x = .int ((k + i : Nat) : Int) := by
 induction n with
 | zero => exact fun k i x h => no_some h
 | succ n ih =>
   intro k i x h
   cases i with
   | zero => exact (Option.some.inj h).symm
   | succ i => exact (ih (k + 1) i x h).trans (congrArg (fun m : Nat => PyData.int m) (Nat.succ_add_eq_add_succ k i))
theorem rangeD_length (n : Nat) : ∀ k : Nat, (rangeD n k).length = n := by
 induction n with
 | zero => exact fun _ => rfl
 | succ n ih => exact fun k => congrArg (· + 1) (ih (k + 1))
theorem range_small {m : Int} (h0 : 0 <= m) (h1 : m <= 1000) : Builtin.Range.small 0 m 1 = true := by
 exact small_one (by omega) (by omega) (by omega) (by omega)
theorem feed_range {tgt : Expr} {m : Int} {t : Tok} (hh : A.handled = none) (I : Inv prog w base G θ s μ) (h0 : 0 <= m) (h1 : m <= 1000) :
   wpAny (model prog w) A (call (.type "range") [.int m t]) (fun x s1 => wpAny (model prog w) A (pyIter x) (FeedPost prog w base A tgt G θ s μ (rangeD m.toNat 0)) no s1) no s := by
 refine call_range_1 ?_
 refine wpAny_pyIter_range (a := 0) (b := m) (c := 1) (Heap.get?_push_size _ rfl) (range_small h0 h1) ?_
 have W := Walks.range (prog := prog) (w := w) (A := A) hh (s.heap.objs.size + 1) 0 1 m.toNat
 have hsz : ∀ o, (s.heap.push o).objs.size = s.heap.objs.size + 1 := fun o => Heap.size_push ..
 rw [<- rangeD_length m.toNat 0] at W
 refine ⟨G, θ, s, s.heap.objs.size + 1, _, _, _, _, _, by simp only [hsz], Ext.refl _ _ _ _, I, ⟨_, _, rfl⟩, fun b x e => Heap.get?_push_of_some _ (Heap.get?_push_of_some _ e),
     KTurns.ofWalks W (fun i v s' Q E st hq => letGo_plain st rfl (by decide) hq), ?_, fun i v h x hs hP hx => ?_, fun b hb => ?_, fun b hb => ?_, fun i h st b hb => ?_, W.self⟩
 · show IsRangeIter _ _ _ _ _
   have e1 : (0 : Int) + ((0 : Nat) : Int) * 1 = 0 := by simp
   have e2 : (((rangeD m.toNat 0).length : Nat) : Int) - ((0 : Nat) : Int) = Builtin.Range.rangeSize 0 m 1 := by
     rw [rangeD_length]
     simp only [Builtin.Range.rangeSize]
     by_cases hm : 0 < m
     · rw [if_pos (by decide), if_pos hm]; simp; omega
     · rw [if_pos (by decide), if_neg hm]; simp; omega
   rw [e1, e2, <- hsz]
   exact Heap.get?_push_size _ rfl
 · obtain ⟨t, rfl⟩ := hP
   rw [rangeD_get _ _ _ _ hx]
   exact ItemIs.of_reads hs (by simpa using Reads.int _ t)
 · simp only [List.mem_cons, List.not_mem_nil, or_false] at hb
   subst hb
   exact .inr ⟨none_of_ge (Nat.le_succ _), _, by rw [<- hsz]; exact Heap.get?_push_size _ rfl⟩
 · simp only [List.mem_cons, List.not_mem_nil, or_false] at hb
   subst hb
   exact ⟨none_of_ge (Nat.le_succ _), _, by rw [<- hsz]; exact Heap.get?_push_size _ rfl⟩
 · simp only [List.mem_cons, List.not_mem_nil, or_false] at hb
   subst hb
   exact ⟨_, st⟩
theorem enumD_get (l : List PyData) : ∀ (k i : Nat) (x : PyData), (enumD k l)[i]? = some x -> ∃ y, l[i]? = some y /\ x = .tuple [.int ((k + i : Nat) : Int), y] := by
 induction l with
 | nil => exact fun k i x h => no_some h
 | cons y l ih =>
   intro k i x h
   cases i with
   | zero => exact ⟨y, rfl, (Option.some.inj h).symm⟩
   | succ i => exact (ih (k + 1) i x h).elim fun z q => ⟨z, q.1, q.2.trans (congrArg (fun m : Nat => PyData.tuple [.int m, z]) (Nat.succ_add_eq_add_succ k i))⟩
theorem enumD_length (l : List PyData) : ∀ k : Nat, (enumD k l).length = l.length := by
 induction l with
 | nil => exact fun _ => rfl
 | cons y l ih => exact fun k => congrArg (· + 1) (ih (k + 1))
theorem feed_enum {elts : List Expr} {kk : Nat} {p : Pos} {v : Value} {l : List PyData} {as : List Addr} (hpair : isPairT (.Tuple elts kk p) = true) (hh : A.handled = none) (I : Inv prog w base G θ s μ) (hr : Reads G v (.tuple l) as) :
   wpAny (model prog w) A (call (.type "enumerate") [v]) (fun x s1 => wpAny (model prog w) A (pyIter x) (FeedPost prog w base A (.Tuple elts kk p) G θ s μ (enumD 0 l)) no s1) no s := by
 refine of_tup hr ?_; clear hr; rintro a o vs n rfl h1 h2 h3 h4
 obtain ⟨oc, od, odt, osl⟩ := o
 simp only at h2 h3
 subst h2 h3
 have hg := I.sub _ _ h1
 have hL : s.heap.IsTuple a vs := ⟨_, hg, rfl, n, rfl⟩
 have hlt : a < s.heap.objs.size := Heap.lt_size hg
 have hl : vs.size = (enumD 0 l).length := by rw [enumD_length]; have := ReadsAll.len h4; simpa using this
 have hsz : ∀ o, (s.heap.push o).objs.size = s.heap.objs.size + 1 := fun o => Heap.size_push ..
 refine callType_new F.called_enumerate (by decide) (F.typeCall_enumerate_1 _) (F.newCall_enumerate_1 _) (fun obj => F.args_object_init_2 obj _) F.entry_enumerate_new
   (meets_enum_tuple a vs n od osl) ⟨hg, ?_⟩
 have he : IsEnum ((s.heap.push (tupIt a)).push { cls := .type "enumerate", data := .fields #[.none, .bool false, .ref s.heap.objs.size, rawInt 0, .none, .none] }) (s.heap.push (tupIt a)).objs.size s.heap.objs.size 0 .none := Heap.get?_push_size _ rfl
 refine ⟨⟨_, he, rfl⟩, ?_⟩
 refine wpAny_pyIter_enum he ?_
 have hne : (s.heap.push (tupIt a)).objs.size ≠ s.heap.objs.size := by rw [hsz]; omega
 have hne2 : (s.heap.push (tupIt a)).objs.size ≠ a := by rw [hsz]; exact Nat.ne_of_gt (Nat.lt_succ_of_lt hlt)
 have W := WalksT.enumerateD (Draws.tuple (prog := prog) (w := w) (A := A.in1) hh s.heap.objs.size a (Nat.ne_of_lt hlt) vs) (s.heap.push (tupIt a)).objs.size hne (fun q => by rcases List.mem_cons.mp q with q | q; exact hne q; exact hne2 (List.mem_singleton.mp q)) (by simp)
 rw [hl] at W
 have hit : ((s.heap.push (tupIt a)).push { cls := .type "enumerate", data := .fields #[.none, .bool false, .ref s.heap.objs.size, rawInt 0, .none, .none] }).get? s.heap.objs.size = some (tupIt a) := Heap.get?_push_of_some _ (Heap.get?_push_size _ rfl)
 refine ⟨G, θ, s, (s.heap.push (tupIt a)).objs.size, _, _, _, _, _, rfl, Ext.refl _ _ _ _, I, ⟨_, s.toks, rfl⟩, fun b x e => Heap.get?_push_of_some _ (Heap.get?_push_of_some _ e),
   KTurns.ofWalksU W.toU, ⟨⟨_, he⟩, ⟨_, hit, rfl, rfl⟩, (hL.push _).push _⟩, fun i v h x hs hP hx => ?_, fun b hb => ?_, fun b hb => ?_, fun i h st b hb => ?_, W.self⟩
 · obtain ⟨T, vals, rfl, ⟨t, y, hy, rfl⟩, hT⟩ := hP
   obtain ⟨z, hz, rfl⟩ := enumD_get _ _ _ _ hx
   obtain ⟨cs, q⟩ := readsAll_at (v := y) h4 (by simpa using hy) hz
   unfold ItemIs
   rw [if_pos hpair]
   rintro u1 u2 e
   cases e
   exact ⟨T, _, _, _, _, rfl, hT, by simpa using Reads.int _ t, q⟩
 · simp only [List.mem_cons, List.not_mem_nil, or_false] at hb
   rcases hb with rfl | rfl | rfl
   · exact .inr ⟨none_of_ge (by rw [hsz]; exact Nat.le_succ _), _, he⟩
   · exact .inr ⟨none_of_ge (Nat.le_refl _), _, hit⟩
   · exact .inl ⟨_, h1⟩
 · simp only [List.mem_cons, List.not_mem_nil, or_false] at hb
   rcases hb with rfl | rfl
   · exact ⟨none_of_ge (by rw [hsz]; exact Nat.le_succ _), _, he⟩
   · exact ⟨none_of_ge (Nat.le_refl _), _, hit⟩
 · simp only [List.mem_cons, List.not_mem_nil, or_false] at hb
   obtain ⟨⟨old, q1⟩, ⟨o, ho, _⟩, _⟩ := st
   rcases hb with rfl | rfl
   · exact ⟨_, q1⟩
   · exact ⟨o, ho⟩
theorem zipD_get (l : List PyData) : ∀ (m : List PyData) (i : Nat) (x : PyData), (zipD l m)[i]? = some x -> ∃ y z, l[i]? = some y /\ m[i]? = some z /\ x = .tuple [y, z] := by
 induction l with
 | nil => exact fun m i x h => no_some h
 | cons y l ih =>
   intro m i x h
   cases m with
   | nil => exact no_some h
   | cons z m =>
     cases i with
     | zero => exact ⟨y, z, rfl, rfl, (Option.some.inj h).symm⟩
     | succ i => exact ih m i x h
theorem zipD_length (l : List PyData) : ∀ (m : List PyData), (zipD l m).length = min l.length m.length := by
 induction l with
 | nil => exact fun m => (Nat.zero_min _).symm
 | cons y l ih =>
   intro m
   cases m with
   | nil => rfl
   | cons z m => exact (congrArg (· + 1) (ih m)).trans (Nat.add_min_add_right _ _ _).symm
theorem turns_zip {z TI TO i1 i2 : Addr} {f1 f2 : List Addr} {n1 n2 : Nat} {P1 P2 : Nat -> Value -> Prop} {S1 S2 : Nat -> Heap -> Prop} {elts : List Expr} {kk : Nat} {p : Pos} (hh : A.handled = none) (D : Parted z TI TO i1 i2 f1 f2)
   (D1 : Draws prog w A.in1 i1 f1 n1 P1 S1) (D2 : Draws prog w A.in1 i2 f2 n2 P2 S2) (g1 : ∀ i h, S1 i h -> ∃ o, h.get? i1 = some o) (g2 : ∀ i h, S2 i h -> ∃ o, h.get? i2 = some o) :
   KTurns prog w A (.Tuple elts kk p) z (z :: TI :: TO :: (f1 ++ f2)) [z, TO, i1, i2] (min n1 n2)
     (fun i v h => ∃ T x y, v = .ref T /\ P1 i x /\ P2 i y /\ h.IsTuple T #[x, y])
     (fun i v h => ∃ T x y, v = .ref T /\ P1 i x /\ P2 i y /\ h.IsTuple T #[x, y] /\ T ≠ z /\ IsZip h z TI TO (rawInt T) /\ IsPair h TI (.ref i1) (.ref i2) /\ (∃ a b, IsPair h TO a b) /\ S1 (i + 1) h /\ S2 (i + 1) h)
     (fun i h => IsZip h z TI TO .none /\ IsPair h TI (.ref i1) (.ref i2) /\ (∃ a b, IsPair h TO a b) /\ S1 i h /\ S2 i h) where
 sub := fun b hb => by
   simp only [List.mem_cons, List.not_mem_nil, or_false] at hb
   rcases hb with rfl | rfl | rfl | rfl
   · simp
   · simp
   · exact List.mem_cons_of_mem _ (List.mem_cons_of_mem _ (List.mem_cons_of_mem _ (List.mem_append_left _ D.m1)))
   · exact List.mem_cons_of_mem _ (List.mem_cons_of_mem _ (List.mem_cons_of_mem _ (List.mem_append_right _ D.m2)))
 frame := fun i h h' st hk => by
   obtain ⟨hz, hTI, ⟨a, b, hTO⟩, h1, h2⟩ := st
   exact ⟨hk z (by simp) _ hz, hk TI (by simp) _ hTI, ⟨a, b, hk TO (by simp) _ hTO⟩, D1.frame _ _ _ h1 fun b hb o e => hk b (by simp [hb]) o e, D2.frame _ _ _ h2 fun b hb o e => hk b (by simp [hb]) o e⟩
 item := fun i s Q E hi st hQ => by
   obtain ⟨hz, hTI, ⟨a, b, hTO⟩, h1, h2⟩ := st
   have hi1 : i < n1 := Nat.lt_of_lt_of_le hi (Nat.min_le_left ..)
   have hi2 : i < n2 := Nat.lt_of_lt_of_le hi (Nat.min_le_right ..)
   have hT : s.TypeIs (.ref z) "zip" := ⟨_, hz, rfl⟩
   have ti1 : TI ≠ i1 := fun e => D.t1 (e ▸ D.m1)
   have ti2 : TI ≠ i2 := fun e => D.t2 (e ▸ D.m2)
   unfold pyNext
   refine wpAny_bind (wpAny_attempt (wpAny_callSpecial?_slot (name := Str.ofString "__next__") hT F.slot_zip_next
     (wpAny_call_entry F.slot_zip_next hT F.entry_zip_next
       (zip_turn D D1 D2 hz hTI hTO h1 h2 (Nat.le_of_lt hi1) (Nat.le_of_lt hi2) (fun x y h' tk p1 p2 _ _ a1 a2 a3 a4 a5 hk => wpAny_pure (hQ (.ref s.heap.objs.size) h' tk ?_ ?_)) fun hor => by omega) (F.args_zip_next_1 _))))
   · exact ⟨_, x, y, rfl, p1, p2, ⟨_, a5, rfl, _, rfl⟩, Nat.ne_of_gt (Heap.lt_size hz), a1, hk _ _ D.a1 D.a3 ti1 ti2 hTI, ⟨_, _, a2⟩, a3, a4⟩
   · intro c o hc e
     simp only [List.mem_cons, List.not_mem_nil, or_false, not_or] at hc
     exact hk c o hc.1 hc.2.1 hc.2.2.1 hc.2.2.2 e
 go := fun i v s Q E hm hQ => by
   obtain ⟨T, x, y, rfl, p1, p2, hT, hTz, hz, hTI, ⟨a, b, hTO⟩, h1, h2⟩ := hm
   refine wpAny_letOwnedTupleGo_zip hz fun h' hz' hs' => hQ h' ⟨T, x, y, rfl, p1, p2, IsTuple.at hT fun o e => (hs'.2 T hTz).trans e⟩ ⟨hz', (hs'.2 _ D.a1).trans hTI, ⟨a, b, (hs'.2 _ D.a2).trans hTO⟩,
     D1.frame _ _ _ h1 fun b hb o e => (hs'.2 b (fun q => D.z1 (q ▸ hb))).trans e, D2.frame _ _ _ h2 fun b hb o e => (hs'.2 b (fun q => D.z2 (q ▸ hb))).trans e⟩ fun c o hc e => (hs'.2 c (fun q => hc (by simp [q]))).trans e
 done := fun s Q E st hQ => by
   obtain ⟨hz, hTI, ⟨a, b, hTO⟩, h1, h2⟩ := st
   have hT : s.TypeIs (.ref z) "zip" := ⟨_, hz, rfl⟩
   unfold pyNext
   refine wpAny_bind (wpAny_attempt (wpAny_callSpecial?_slot (name := Str.ofString "__next__") hT F.slot_zip_next
     (wpAny_call_entry F.slot_zip_next hT F.entry_zip_next
       (zip_turn D D1 D2 hz hTI hTO h1 h2 (Nat.min_le_left ..) (Nat.min_le_right ..) (fun x y h' tk p1 p2 l1 l2 _ _ _ _ _ _ => by omega) fun hor h' tk e hk he => ?_) (F.args_zip_next_1 _))))
   obtain ⟨o, ho, hc⟩ := he
   refine wpAny_bind (wpAny_isInstance (T := "StopIteration") (b := true) ⟨o, ho, hc⟩ isSubtype_stop ?_)
   refine wpAny_pure (hQ _ _ fun c o hc e => ?_)
   simp only [List.mem_cons, List.not_mem_nil, or_false, not_or] at hc
   exact hk c o hc.1 hc.2.1 hc.2.2.1 hc.2.2.2 e
theorem feed_zip {elts : List Expr} {kk : Nat} {p : Pos} {v u : Value} {l m : List PyData} {as bs : List Addr} (hpair : isPairT (.Tuple elts kk p) = true) (hh : A.handled = none) (I : Inv prog w base G θ s μ) (hr : Reads G v (.tuple l) as) (hr2 : Reads G u (.tuple m) bs) :
   wpAny (model prog w) A (call (.type "zip") [v, u]) (fun x s1 => wpAny (model prog w) A (pyIter x) (FeedPost prog w base A (.Tuple elts kk p) G θ s μ (zipD l m)) no s1) no s := by
 obtain ⟨a1, vs, rfl, ⟨o1, ho1, hc1, k1, hd1⟩, ra⟩ := tup_at I hr
 obtain ⟨a2, us, rfl, ⟨o2, ho2, hc2, k2, hd2⟩, rb⟩ := tup_at I hr2
 have hL1 : s.heap.IsTuple a1 vs := ⟨o1, ho1, hc1, k1, hd1⟩
 have hL2 : s.heap.IsTuple a2 us := ⟨o2, ho2, hc2, k2, hd2⟩
 have g1 : ∃ o, G.get? a1 = some o := by cases hr with | tuple h _ _ _ => exact ⟨_, h⟩
 have g2 : ∃ o, G.get? a2 = some o := by cases hr2 with | tuple h _ _ _ => exact ⟨_, h⟩
 have lt1 : a1 < s.heap.objs.size := Heap.lt_size ho1
 have lt2 : a2 < s.heap.objs.size := Heap.lt_size ho2
 have ll1 := ReadsAll.len ra
 have ll2 := ReadsAll.len rb
 simp only [Array.length_toList] at ll1 ll2
 have z1 : ∀ o, (s.heap.push o).objs.size = s.heap.objs.size + 1 := fun o => Heap.size_push ..
 have z2 : ∀ o p, ((s.heap.push o).push p).objs.size = s.heap.objs.size + 2 := fun o p => by rw [Heap.size_push, z1]
 have z3 : ∀ o p q, (((s.heap.push o).push p).push q).objs.size = s.heap.objs.size + 3 := fun o p q => by rw [Heap.size_push, z2]
 have z4 : ∀ o p q r, ((((s.heap.push o).push p).push q).push r).objs.size = s.heap.objs.size + 4 := fun o p q r => by rw [Heap.size_push, z3]
 have hk : ∀ b o, s.heap.get? b = some o -> (zipHeap s.heap a1 a2).get? b = some o := fun b o e => Heap.get?_push_of_some _ (Heap.get?_push_of_some _ (Heap.get?_push_of_some _ (Heap.get?_push_of_some _ (Heap.get?_push_of_some _ e))))
 have e0 : (zipHeap s.heap a1 a2).get? s.heap.objs.size = some (tupIt a1) := Heap.get?_push_of_some _ (Heap.get?_push_of_some _ (Heap.get?_push_of_some _ (Heap.get?_push_of_some _ (Heap.get?_push_size _ rfl))))
 have e1 : (zipHeap s.heap a1 a2).get? (s.heap.objs.size + 1) = some (tupIt a2) := Heap.get?_push_of_some _ (Heap.get?_push_of_some _ (Heap.get?_push_of_some _ (by rw [<- z1 (tupIt a1)]; exact Heap.get?_push_size _ rfl)))
 have e2 : (zipHeap s.heap a1 a2).get? (s.heap.objs.size + 2) = some (pairO (.ref s.heap.objs.size) (.ref (s.heap.objs.size + 1))) := Heap.get?_push_of_some _ (Heap.get?_push_of_some _ (by rw [<- z2 (tupIt a1) (tupIt a2)]; exact Heap.get?_push_size _ rfl))
 have e3 : (zipHeap s.heap a1 a2).get? (s.heap.objs.size + 3) = some (pairO .none .none) := Heap.get?_push_of_some _ (by rw [<- z3 (tupIt a1) (tupIt a2) (pairO (.ref s.heap.objs.size) (.ref (s.heap.objs.size + 1)))]; exact Heap.get?_push_size _ rfl)
 have e4 : (zipHeap s.heap a1 a2).get? (s.heap.objs.size + 4) = some (zipO (s.heap.objs.size + 2) (s.heap.objs.size + 3)) := by
   rw [<- z4 (tupIt a1) (tupIt a2) (pairO (.ref s.heap.objs.size) (.ref (s.heap.objs.size + 1))) (pairO .none .none)]; exact Heap.get?_push_size _ rfl
 refine callType_new F.called_zip (by decide) (F.typeCall_zip_2 _ _) (F.newCall_zip_2 _ _) (fun obj => F.args_object_init_3 obj _ _) F.entry_zip_new
   (meets_zip_tuples a1 a2 vs us) ⟨hL1, hL2, ⟨_, e4, rfl⟩, ?_⟩
 refine wpAny_pyIter_zip e4 ?_
 have D : Parted (s.heap.objs.size + 4) (s.heap.objs.size + 2) (s.heap.objs.size + 3) s.heap.objs.size (s.heap.objs.size + 1) [s.heap.objs.size, a1] [s.heap.objs.size + 1, a2] := by
   have A1 : ∀ k, s.heap.objs.size + k ≠ a1 := fun k => Nat.ne_of_gt (Nat.lt_of_lt_of_le lt1 (Nat.le_add_right _ k))
   have A2 : ∀ k, s.heap.objs.size + k ≠ a2 := fun k => Nat.ne_of_gt (Nat.lt_of_lt_of_le lt2 (Nat.le_add_right _ k))
   have A10 := A1 0
   have A20 := A2 0
   simp only [Nat.add_zero] at A10 A20
   have N : ∀ k m, k ≠ m -> s.heap.objs.size + k ≠ s.heap.objs.size + m := fun k m h e => h (Nat.add_left_cancel e)
   have N0 : ∀ k, 0 ≠ k -> s.heap.objs.size ≠ s.heap.objs.size + k := fun k h e => h (Nat.add_left_cancel (n := s.heap.objs.size) (by simpa using e))
   refine ⟨N _ _ (by decide), N _ _ (by decide), N _ _ (by decide), ?_, ?_, ?_, ?_, ?_, ?_, by simp, by simp, ?_, ?_⟩ <;> simp only [List.mem_cons, List.not_mem_nil, or_false, not_or] <;>
     first
       | exact ⟨(N0 _ (by decide)).symm, A1 _⟩
       | exact ⟨N _ _ (by decide), A2 _⟩
       | exact ⟨N0 _ (by decide), A20⟩
 have W := turns_zip (prog := prog) (w := w) (elts := elts) (kk := kk) (p := p) hh D (Draws.tuple (A := A.in1) hh s.heap.objs.size a1 (Nat.ne_of_lt lt1) vs) (Draws.tuple (A := A.in1) hh (s.heap.objs.size + 1) a2 (Nat.ne_of_lt (Nat.lt_succ_of_lt lt2)) us)
   (fun i h st => let ⟨⟨o, ho, _⟩, _⟩ := st; ⟨o, ho⟩) (fun i h st => let ⟨⟨o, ho, _⟩, _⟩ := st; ⟨o, ho⟩)
 have hlen : min vs.size us.size = (zipD l m).length := by rw [zipD_length, ll1, ll2]
 rw [hlen] at W
 refine ⟨G, θ, s, s.heap.objs.size + 4, _, _, _, _, _, rfl, Ext.refl _ _ _ _, I, ⟨_, s.toks, rfl⟩, hk, W, ⟨e4, e2, ⟨_, _, e3⟩, ⟨⟨_, e0, rfl, rfl⟩, IsTuple.at hL1 (hk _)⟩, ⟨⟨_, e1, rfl, rfl⟩, IsTuple.at hL2 (hk _)⟩⟩, fun i v h x hs hP hx => ?_, fun b hb => ?_, fun b hb => ?_, fun i h st b hb => ?_, fun i s' Q E st hq => wpAny_pyIter_zip st.1 hq⟩
 · obtain ⟨T, x1, y1, rfl, p1, p2, hT⟩ := hP
   obtain ⟨y, z, hy, hz, rfl⟩ := zipD_get _ _ _ _ hx
   obtain ⟨cs, q1⟩ := readsAll_at (v := x1) ra (by simpa using p1) hy
   obtain ⟨ds, q2⟩ := readsAll_at (v := y1) rb (by simpa using p2) hz
   unfold ItemIs
   rw [if_pos hpair]
   rintro u1 u2 e
   cases e
   exact ⟨T, _, _, _, _, rfl, hT, q1, q2⟩
 · simp only [List.cons_append, List.nil_append, List.mem_cons, List.not_mem_nil, or_false] at hb
   rcases hb with rfl | rfl | rfl | rfl | rfl | rfl | rfl
   · exact .inr ⟨none_of_ge (by omega), _, e4⟩
   · exact .inr ⟨none_of_ge (by omega), _, e2⟩
   · exact .inr ⟨none_of_ge (by omega), _, e3⟩
   · exact .inr ⟨none_of_ge (by omega), _, e0⟩
   · exact .inl g1
   · exact .inr ⟨none_of_ge (by omega), _, e1⟩
   · exact .inl g2
 · simp only [List.mem_cons, List.not_mem_nil, or_false] at hb
   rcases hb with rfl | rfl | rfl | rfl
   · exact ⟨none_of_ge (by omega), _, e4⟩
   · exact ⟨none_of_ge (by omega), _, e3⟩
   · exact ⟨none_of_ge (by omega), _, e0⟩
   · exact ⟨none_of_ge (by omega), _, e1⟩
 · obtain ⟨q1, q2, ⟨x, y, q3⟩, ⟨⟨o, ho, _⟩, _⟩, ⟨⟨o', ho', _⟩, _⟩⟩ := st
   simp only [List.mem_cons, List.not_mem_nil, or_false] at hb
   rcases hb with rfl | rfl | rfl | rfl
   · exact ⟨_, q1⟩
   · exact ⟨_, q3⟩
   · exact ⟨o, ho⟩
   · exact ⟨o', ho'⟩
end
end Mine
end
section
local macro_rules | `(tactic| omega) => `(tactic| lia)
section
namespace Mine
open PySem PySem.W PyProof.Rows PySem.Spec
section
variable {P : Par} {prog : Program} {w : World} {base G G' : Heap} {θ θ' : List Addr} {s s' : Shared} {μ μ' : Sto} {A : Around} {n : Nat} {r : Rec} {env : Env} {fm : Fm} {sc : Scope} {ρ ρ' : Loc}
theorem FeedPost.of {tgt : Expr} {G' : Heap} {θ' : List Addr} {s' s2 : Shared} {l : List PyData} {it : Value} (x : Ext [] G θ s G' θ' s') (p : FeedPost prog w base A tgt G' θ' s' μ' l it s2) : FeedPost prog w base A tgt G θ s μ' l it s2 := by
 obtain ⟨G1, θ1, s1, Ia, fp, wr, Pp, Md, St, h1, h2, h3, h4, h5, h6⟩ := p
 exact ⟨G1, θ1, s1, Ia, fp, wr, Pp, Md, St, h1, x.trans h2, h3, h4, h5, h6⟩
theorem noSet {e : Expr} (h : isSetE e = false) (x : Value) : foldedSetIterable e env x = pure x := by
 cases e <;> first | rfl | exact no_ft h.symm
theorem feed_seq {tgt : Expr} {l : List PyData} {v : Value} {X : V} (hh : A.handled = none) (I : Inv prog w base G θ s μ) (rv : RV prog w G θ v X) (h : seqOf X = some l) : wpAny (model prog w) A (pyIter v) (FeedPost prog w base A tgt G θ s μ l) no s :=
 bind1 h fun x hx h => (of_dat hx ▸ rv : RV prog w G θ v (.d x)).data.elim fun as q => (of_seqD h).elim (fun e => feed_list hh I (e ▸ q)) fun e => feed_tuple hh I (e ▸ q)
theorem iter_plain {e tgt : Expr} {l : List PyData} {ow : Bool} (hs : SEv prog w base r n) (hroom : Room A n) (I : Inv prog w base G θ s μ) (R : EnvRep prog w G θ s.heap env fm) (h : plainIter r fm e μ = some ((ow, l), μ')) :
   wpAny (model prog w) A (eval e env) (fun x s1 => wpAny (model prog w) A (pyIter x) (FeedPost prog w base A tgt G θ s μ' l) no s1) no s := by
 exact bind2 h fun v μ1 h1 h => bind1 h fun l' h2 h => inj2 h fun e e' => wpAny_mono (hs A G θ s μ env fm _ v _ hroom I R h1) (fun x s1 p => p.el fun G1 t1 e1 I1 r1 =>
   wpAny_mono (feed_seq hroom.hand I1 r1 h2) (fun _ _ p => (congrArg (·.2) e : l' = l) ▸ e' ▸ p.of e1) fun _ _ q => q) fun _ _ q => q
theorem s_lazy {tgt : Expr} {l : List PyData} {ow : Bool} {T : String} {us : List Value} {vs : List V} (hh : A.handled = none) (hp : ow = true -> isPairT tgt = true) (I2 : Inv prog w base G θ s μ) (rs : RVs prog w G θ us vs) (h3 : lazyN T vs = some (ow, l)) :
   wpAny (model prog w) A (call (.type T) us) (fun x s1 => wpAny (model prog w) A (pyIter x) (FeedPost prog w base A tgt G θ s μ l) no s1) no s := by
 refine if_or h3 (fun hx h => ?_) fun _ h3 => if_or h3 (fun hx h => ?_) fun _ h3 => if_some h3 fun hx h => ?_
 · refine bind1 h fun q hq h => bind1 h fun a ha h => bind1 h fun b hb h => inj2 h fun e e' => ?_
   obtain ⟨ab, e1⟩ := Option.isSome_iff_exists.mp (hp e.symm)
   obtain ⟨p1, p2, k, p, e2⟩ := of_pairE e1
   refine rvs_two (of_two hq ▸ rs) fun u1 u2 e3 r1 r2 => (d_tup ha ▸ r1 : RV prog w G θ u1 (.d (.tuple a))).data.elim fun _ q1 => (d_tup hb ▸ r2 : RV prog w G θ u2 (.d (.tuple b))).data.elim fun _ q2 => ?_
   rw [beq_iff_eq.mp hx, e3, <- e', e2]
   exact feed_zip (e2 ▸ hp e.symm) hh I2 q1 q2
 · refine bind1 h fun v hv h => bind1 h fun a ha h => inj2 h fun e e' => ?_
   obtain ⟨ab, e1⟩ := Option.isSome_iff_exists.mp (hp e.symm)
   obtain ⟨p1, p2, k, p, e2⟩ := of_pairE e1
   refine rvs_one (of_one hv ▸ rs) fun u1 e3 r1 => (d_tup ha ▸ r1 : RV prog w G θ u1 (.d (.tuple a))).data.elim fun _ q1 => ?_
   rw [beq_iff_eq.mp hx, e3, <- e', e2]
   exact feed_enum (e2 ▸ hp e.symm) hh I2 q1
 · refine bind1 h fun v hv h => bind1 h fun a ha h => if_some h fun hk h => inj2 h fun e e' => ?_
   refine rvs_one (of_one hv ▸ rs) fun u1 e3 r1 => (d_int ha ▸ r1 : RV prog w G θ u1 (.d (.int a))).data.elim fun _ q1 => of_int q1 fun t e4 => ?_
   rw [beq_iff_eq.mp hx, e3, <- e', e4]
   exact feed_range hh I2 (of_decide_eq_true (and_t hk).1) (of_decide_eq_true (and_t hk).2)
theorem s_iter {e tgt : Expr} {l : List PyData} {ow : Bool} (B : BaseOk P prog w base) (hs : SEv prog w base r n) (hst : NoStar r) (hroom : Room A n) (I : Inv prog w base G θ s μ) (R : EnvRep prog w G θ s.heap env fm)
   (hp : ow = true -> isPairT tgt = true) (h : iterM P r fm e μ = some ((ow, l), μ')) :
   (∀ x, foldedSetIterable e env x = pure x) /\ wpAny (model prog w) A (eval e env) (fun x s1 => wpAny (model prog w) A (pyIter x) (FeedPost prog w base A tgt G θ s μ' l) no s1) no s := by
 unfold iterM at h
 cases hc : callN e with
 | none => rw [hc] at h; exact if_no h fun hk h => ⟨noSet (Bool.eq_false_iff.mpr hk), iter_plain hs hroom I R h⟩
 | some q =>
   rw [hc] at h
   obtain ⟨p1, pos, rfl⟩ := of_callN hc
   refine ⟨fun _ => rfl, ?_⟩
   refine bind1 h fun g hg h => if_or h (fun _ h => ?_) fun _ h => iter_plain hs hroom I R h
   refine bind2 h fun vs μ1 h1 h => bind1 h fun l' h3 h => bind1 h3 fun T hT h3 => ?_
   obtain ⟨rfl, rfl⟩ := Prod.mk.inj (Option.some.inj h)
   show wpAny _ _ (do callWith pos (<- eval (.Name q.1 p1) env) [] (backTo pos (starEach q.2 env)) (backToKw pos (keywordEach [] env))) _ _ _
   refine wpAny_bind (wpAny_mono (s_name B I R hg) (fun fv s1 p1 => p1.el fun G1 t1 e1 I1 r1 => of_con (of_tyV hT ▸ r1) fun e => ?_) fun _ _ x => x)
   rw [e]
   exact s_callWith hs hst hroom (fun h _ => keeps_plain (f := .type T) (fun a e => nomatch e) h) I1 (R.ext e1) h1 fun us G2 t2 s2 e2 I2 rs =>
     wpAny_mono (s_lazy hroom.hand hp I2 rs h3) (fun _ _ z => wpAny_mono z (fun _ _ p => p.of (e1.trans e2)) fun _ _ x => x) fun _ _ x => x
theorem s_for {tgt it : Expr} {body : List Stmt} {pos : Pos} {fl : Flw} {ow : Bool} {l : List PyData} {μ1 : Sto} (B : BaseOk P prog w base) (hs : SEv prog w base r n) (hx : SExs prog w base r n) (hst : NoStar r) (hroom : Room A n) (I : Inv prog w base G θ s μ)
   (R : FrameRep prog w G θ s.heap env ⟨sc, ρ⟩) (h1 : iterM P r ⟨sc, ρ⟩ it μ = some ((ow, l), μ1)) (hp : ow = true -> isPairT tgt = true) (h2 : forM r sc tgt body l ρ μ1 = some (fl, ρ', μ')) :
   wpAny (model prog w) A (exec (.For tgt it body [] pos) env) (PostX prog w base G θ s μ' env sc ρ' fl) no s := by
 obtain ⟨hf, hi⟩ := s_iter (tgt := tgt) B hs hst hroom I R.rep hp h1
 refine wpAny_For (wpAny_mono hi (fun x s1 z => wpAny_mono z (fun itv s2 p => ?_) fun _ _ q => q) fun _ _ q => q) hf
 obtain ⟨G1, θ1, s0, Ia, fp, wr, Pp, Md, St, rfl, e1, I1, hsame, hkp, Fd⟩ := p
 refine codeAny_mono (s_forLoop hx hroom I1 (R.ext e1) hsame hkp Fd h2) fun q s' z => ?_
 obtain ⟨f, rfl, G3, θ3, e3, I3, R3, hfl⟩ := z
 exact ⟨G3, θ3, (e1.weaken fun _ q => nomatch q).trans e3, I3, R3, hfl⟩
end
end Mine
end
section
namespace Mine
open PySem PySem.W PyProof.Rows PySem.Spec
section
variable {P : Par} {prog : Program} {w : World} {base G G' : Heap} {θ θ' : List Addr} {s s' : Shared} {μ μ' : Sto} {A : Around} {n : Nat} {r : Rec} {env : Env} {fm : Fm} {sc : Scope} {ρ ρ' : Loc}
theorem tests_rest {Q : Bool -> Shared -> Prop} {l : List Expr} : ∀ {s : Shared}, Q false s -> wpAny (model prog w) A (forIn l false fun c r => if r = true then do let ok <- isTrue c env (eval c env); pure (ForInStep.yield ok) else pure (ForInStep.yield r)) Q no s := by
 induction l with
 | nil => exact fun hq => wpAny_pure hq
 | cons c l ih => intro s hq; rw [List.forIn_cons, if_neg Bool.false_ne_true]; exact wpAny_bind (wpAny_pure (ih hq))
theorem s_tests (ht : STr prog w base r n) (hroom : Room A n) {ifs : List Expr} : ∀ {G : Heap} {θ : List Addr} {s : Shared} {μ : Sto} {b : Bool} {μ' : Sto}, Inv prog w base G θ s μ -> EnvRep prog w G θ s.heap env fm -> testsM (r.tr fm) ifs μ = some (b, μ') ->
   wpAny (model prog w) A (forIn ifs true fun c r => if r = true then do let ok <- isTrue c env (eval c env); pure (ForInStep.yield ok) else pure (ForInStep.yield r)) (PostB prog w base G θ s μ' b) no s := by
 induction ifs with
 | nil => exact fun I R h => inj2 h fun e e' => e ▸ e' ▸ wpAny_pure ⟨rfl, _, _, Ext.refl _ _ _ _, I⟩
 | cons c cs ih =>
   intro G θ s μ b μ' I R h
   refine bind2 (show ((r.tr fm c μ).bind fun b => if b.1 then testsM (r.tr fm) cs b.2 else some (false, b.2)) = some (b, μ') from h) fun b1 μ1 h1 h2 => ?_
   rw [List.forIn_cons, if_pos rfl]
   refine wpAny_bind (wpAny_bind (wpAny_mono (ht A G θ s μ env fm c b1 μ1 hroom I R h1) (fun b' s1 p1 => p1.el fun e G1 t1 e1 I1 => wpAny_pure ?_) fun _ _ x => x))
   subst e
   cases b' with
   | true => exact wpAny_mono (ih I1 (R.ext e1) h2) (fun _ _ p => PostB.of e1 p) fun _ _ x => x
   | false => exact inj2 h2 fun e e' => tests_rest (e ▸ e' ▸ ⟨rfl, G1, t1, e1, I1⟩)
theorem bindT_keep {tgt : Expr} {x : PyData} (h : bindT sc false tgt x ρ = some ρ') : ∀ y V, ρ.lookup y = some V -> ρ'.lookup y = some V := by
 intro y V hy
 rcases bindT_inv h with ⟨n, p, rfl, hk, rfl⟩ | ⟨na, pa, nb, pb, k, p, u1, u2, rfl, rfl, hk, rfl⟩
 · simp only [Bool.and_eq_true, Bool.false_or, Option.isNone_iff_eq_none] at hk
   rw [lookup_setL, if_neg (by rintro rfl; rw [hk.2] at hy; exact no_some hy)]
   exact hy
 · simp only [Bool.and_eq_true, Bool.false_or, Option.isNone_iff_eq_none] at hk
   rw [lookup_setL, if_neg (by rintro rfl; rw [hk.2.2] at hy; exact no_some hy), lookup_setL, if_neg (by rintro rfl; rw [hk.2.1] at hy; exact no_some hy)]
   exact hy
theorem EnvRep.drop (R : EnvRep prog w G θ s.heap env ⟨sc, ρ'⟩) (h : ∀ y V, ρ.lookup y = some V -> ρ'.lookup y = some V) : EnvRep prog w G θ s.heap env ⟨sc, ρ⟩ where
 kind := R.kind
 glob := R.glob
 blt := R.blt
 kLoc := R.kLoc
 kCel := R.kCel
 kGlo := R.kGlo
 noCD := R.noCD
 loc := let ⟨m, hn, hm⟩ := R.loc; ⟨m, hn, fun y V h1 h2 => hm y V h1 (h y V h2)⟩
 cel := fun y V h1 h2 => R.cel y V h1 (h y V h2)
 ownL := R.ownL
 ownC := R.ownC
theorem CompRep.drop (R : CompRep prog w G θ s.heap env ⟨sc, ρ'⟩) (h : ∀ y V, ρ.lookup y = some V -> ρ'.lookup y = some V) : CompRep prog w G θ s.heap env ⟨sc, ρ⟩ := ⟨R.rep.drop h, R.cL⟩
structure Acc (G : Heap) (θ : List Addr) (h : Heap) (env : Env) (D : Addr) (ys : List PyData) : Prop where
 at_ : ∃ vs as, h.PlainList D vs /\ ReadsAll G vs.toList ys as
 offθ : D ∉ θ
 offG : G.get? D = none
 offE : D ∉ WF env
theorem Acc.ext {W : List Addr} {ys : List PyData} {D : Addr} (C : Acc G θ s.heap env D ys) (x : Ext W G θ s G' θ' s') (hD : D ∉ W) : Acc G' θ' s'.heap env D ys := by
 obtain ⟨⟨vs, as, ⟨k, ho⟩, ra⟩, h1, h2, h3⟩ := C
 refine ⟨⟨vs, as, ⟨k, x.keep D h1 hD _ ho⟩, ReadsAll.keeps x.g ra⟩, fun q => h1 (x.newT D q _ ho), ?_, h3⟩
 cases hg : G'.get? D with
 | none => rfl
 | some o' => have := x.newG D _ o' ho h1 hg; rw [h2] at this; exact no_some this
theorem Acc.append {D : Addr} {ys : List PyData} {v : Value} {y : PyData} {as : List Addr} {Q : Value -> Shared -> Prop} (I : Inv prog w base G θ s μ) (C : Acc G θ s.heap env D ys) (hr : Reads G v y as) (hz : ys.length <= 100000)
   (hq : ∀ s', Ext [D] G θ s G θ s' -> Inv prog w base G θ s' μ -> Acc G θ s'.heap env D (ys ++ [y]) -> Q .none s') : wpAny (model prog w) A (call (.builtin "list.append") [.ref D, v]) Q no s := by
 obtain ⟨⟨vs, bs, hp, ra⟩, h1, h2, h3⟩ := C
 have ll := ReadsAll.len ra
 simp only [Array.length_toList] at ll
 refine wpAny_list_append_plain hp (fun h' hp' hs' => ?_) (by rw [sizeLine_is]; omega)
 have hkp : ∀ b o, b ∉ [D] -> s.heap.get? b = some o -> h'.get? b = some o := fun b o hb e => (hs'.2 b (by simpa using hb)).trans e
 obtain ⟨cs, rc⟩ := ReadsAll.append ra (.cons hr .nil)
 refine hq _ (Ext.other (t := s.toks) hkp (by obtain ⟨k, e⟩ := hp'; simpa using ⟨_, e⟩)) (I.other (t := s.toks) hkp (by simpa using h1) (by simpa using h2)) ⟨⟨_, cs, hp', by simpa using rc⟩, h1, h2, h3⟩
noncomputable def CompBody (prog : Program) (w : World) (A : Around) (elt : Expr) (gens : List Comprehension) (csc : Scope) (pos : Pos) (d : Nat) (acc : Value) (env : Env) (K : Shared -> Prop) (s : Shared) : Prop := match gens[d + 1]? with
 | some g' => wpAny (model prog w) A (eval g'.iter env) (fun x s₅ => wpAny (model prog w) A (pyIter x) (fun it' s₆ => codeAny (model prog w) A (.compStart (.ListComp elt gens csc pos) (d + 1) it' acc env)
     (fun q s₇ => ∃ f, q = .ok f /\ K s₇) s₆) no s₅) no s
 | none => wpAny (model prog w) A (eval elt env) (fun x s₅ => wpAny (model prog w) A (call (.builtin "list.append") [acc, x]) (fun _ s₆ => K s₆) no s₅) no s
theorem codeAny_comp {R : Result -> Shared -> Prop} {elt : Expr} {gens : List Comprehension} {csc : Scope} {pos : Pos} {d : Nat} {g : Comprehension} {it acc : Value} (hg : gens[d]? = some g) (ha : g.is_async = 0) (hgs : ∀ g', gens[d + 1]? = some g' -> g'.is_async = 0 /\ ∀ x, foldedSetIterable g'.iter env x = pure x) (Iv : Nat -> Shared -> Prop)
   (turn : ∀ k s, Iv k s -> wpAny (model prog w) A (pyNext it) (fun q s₁ => match q with
     | none => R (.ok .next) s₁
     | some v => wpAny (model prog w) A (letOwnedTupleGo g.target it v) (fun _ s₂ => wpAny (model prog w) A (assign g.target env v) (fun _ s₃ =>
         wpAny (model prog w) A (forIn g.ifs true fun c r => if r = true then do let ok <- isTrue c env (eval c env); pure (ForInStep.yield ok) else pure (ForInStep.yield r)) (fun ok s₄ =>
           if ok then CompBody prog w A elt gens csc pos d acc env (fun s => ∃ m, m < k /\ Iv m s) s₄
           else ∃ m, m < k /\ Iv m s₄) no s₃) no s₂) no s₁) no s)
   (k : Nat) (h : Iv k s) : codeAny (model prog w) A (.compLoop (.ListComp elt gens csc pos) d it acc env) R s := by
 refine codeAny_loop rfl Iv (fun k s hI => ?_) k h
 show wpAny _ A ((compTurn (.ListComp elt gens csc pos) d it acc env).onRaise (fun x => do noteFrame x env; theTreesLotGoes x)) _ _ s
 refine wpAny_noted (no_any ?_)
 unfold compTurn
 simp only [hg]
 rw [ha]
 refine wpAny_bind (wpAny_standAt (wpAny_bind (wpAny_mono (turn k s hI) (fun q s₁ h₁ => ?_) fun _ _ x => x)))
 cases q with
 | none => exact wpAny_pure h₁
 | some v =>
   refine wpAny_bind (wpAny_mono h₁ (fun _ s₂ h₂ => ?_) fun _ _ x => x)
   refine wpAny_bind (wpAny_mono h₂ (fun _ s₃ h₃ => ?_) fun _ _ x => x)
   refine wpAny_bind (wpAny_mono h₃ (fun ok s₄ h₄ => ?_) fun _ _ x => x)
   cases ok with
   | false => exact wpAny_pure ⟨rfl, h₄⟩
   | true =>
     have h₄ : CompBody prog w A elt gens csc pos d acc env (fun s => ∃ m, m < k /\ Iv m s) s₄ := h₄
     unfold CompBody at h₄
     simp only [if_true]
     cases hg' : gens[d + 1]? with
     | none =>
       rw [hg'] at h₄
       refine wpAny_bind (wpAny_bind (wpAny_mono h₄ (fun x s₅ h₅ => ?_) fun _ _ x => x))
       refine wpAny_bind (wpAny_mono h₅ (fun _ s₆ h₆ => ?_) fun _ _ x => x)
       exact wpAny_pure (wpAny_pure ⟨rfl, h₆⟩)
     | some g' =>
       rw [hg'] at h₄
       obtain ⟨ha', hf⟩ := hgs g' hg'
       refine wpAny_bind (wpAny_mono h₄ (fun x s₅ h₅ => ?_) fun _ _ x => x)
       refine wpAny_bind (wpAny_standAt ?_)
       have hne : (g'.is_async != 0) = false := by rw [ha']; rfl
       simp only [hne, Bool.false_eq_true, if_false]
       rw [hf]
       refine wpAny_bind (wpAny_pure ?_)
       refine wpAny_bind (wpAny_holding (wpAny_mono h₅ (fun it' s₆ h₆ => ?_) fun _ _ x => x))
       refine wpAny_bind (wpAny_runOwn (codeAny_mono h₆ fun q s₇ h₇ => ?_))
       obtain ⟨f, rfl, h₈⟩ := h₇
       exact wpAny_pure ⟨rfl, h₈⟩
theorem codeAny_compStart {R : Result -> Shared -> Prop} {elt : Expr} {gens : List Comprehension} {csc : Scope} {pos : Pos} {d : Nat} {g : Comprehension} {it acc : Value} (hg : gens[d]? = some g) (ha : g.is_async = 0)
   (h0 : codeAny (model prog w) A (.compLoop (.ListComp elt gens csc pos) d it acc env) R s)
   (h : wpAny (model prog w) A (pyIter it) (fun it' s' => codeAny (model prog w) A (.compLoop (.ListComp elt gens csc pos) d it' acc env) R s') no s) :
   codeAny (model prog w) A (.compStart (.ListComp elt gens csc pos) d it acc env) R s := by
 refine codeAny_of_tree ?_
 show wpAny _ _ ((compStart (.ListComp elt gens csc pos) d it acc env).onRaise (fun x => do noteFrame x env; standAt theWindowsPlace)) _ _ s
 refine wpAny_notedAt (no_any ?_)
 unfold compStart
 have hc : clausesOf (.ListComp elt gens csc pos) = gens := rfl
 rw [hc, hg]
 have hne : (some g).elim false (fun x => x.is_async != 0) = false := by show (g.is_async != 0) = false; rw [ha]; rfl
 rw [hne]
 simp only [Bool.false_eq_true, if_false]
 refine wpAny_bind (wpAny_askSetting (wpAny_ite ?_))
 split
 · exact wpAny_pure ⟨rfl, h0⟩
 · refine wpAny_bind (wpAny_rule (wpAny_bind (wpAny_standAt (wpAny_bind (wpAny_mono h (fun it' s' h' => wpAny_pure ⟨rfl, h'⟩) fun _ _ x => x)))))
end
end Mine
end
section
namespace Mine
open PySem PySem.W PyProof.Rows PySem.Spec
section
variable {P : Par} {prog : Program} {w : World} {base G G' : Heap} {θ θ' : List Addr} {s s' : Shared} {μ μ' : Sto} {A : Around} {n : Nat} {r : Rec} {env : Env} {fm : Fm} {sc : Scope} {ρ ρ' : Loc} {c : Bool} {W : List Addr}
 {Rp : Heap -> List Addr -> Heap -> Loc -> Prop}
theorem Turn.init {tgt : Expr} {Ia : Addr} {xs : List PyData} {s₀ : Shared} {fp wr X : List Addr} {Pp Md : Nat -> Value -> Heap -> Prop} {St : Nat -> Heap -> Prop} (F : Frame prog w base env sc c W Rp)
   (I : Inv prog w base G θ s₀ μ) (R : Rp G θ s₀.heap ρ) (hX : ∀ b ∈ X, ∃ o, s₀.heap.get? b = some o) (hs : ∃ h t, s = { s₀ with heap := h, toks := t }) (hkp : ∀ b o, s₀.heap.get? b = some o -> s.heap.get? b = some o)
   (Fd : Feed prog w A tgt Ia G s.heap s₀.heap xs fp wr Pp Md St) : Turn prog w base env G θ s₀ fp wr St Rp 0 G θ μ ρ X s := by
 have own := (F.envr R).own
 obtain ⟨h', t, rfl⟩ := hs
 have I1 : Inv prog w base G θ { s₀ with heap := h', toks := t } μ := I.grow hkp
 have e1 : Ext [] G θ s₀ G θ { s₀ with heap := h', toks := t } := Ext.grow hkp
 refine ⟨e1.weaken (fun _ q => nomatch q), I1, F.ext R e1 (by simp), Fd.st, fun b hb => ?_, fun b hb => ?_, fun b hb => (Fd.wrNew b hb).2⟩
 · rcases Fd.fpOk b hb with q | ⟨q1, q2⟩
   · exact .inl q
   · refine .inr ⟨fun q => ?_, fun q => ?_, fun q => ?_, q2⟩
     · obtain ⟨o, e⟩ := I.live b q; rw [q1] at e; exact no_some e
     · obtain ⟨_, o, e⟩ := own b q; rw [q1] at e; exact no_some e
     · obtain ⟨o, e⟩ := hX b q; rw [q1] at e; exact no_some e
 · have q1 := (Fd.wrNew b hb).1
   refine ⟨fun q => ?_, I.gnone' q1, fun q => ?_, fun q => ?_⟩
   · obtain ⟨o, e⟩ := I.live b q; rw [q1] at e; exact no_some e
   · obtain ⟨_, o, e⟩ := own b q; rw [q1] at e; exact no_some e
   · obtain ⟨o, e⟩ := hX b q; rw [q1] at e; exact no_some e
noncomputable def CPost (prog : Program) (w : World) (base G : Heap) (θ : List Addr) (s : Shared) (μ' : Sto) (env : Env) (sc : Scope) (ρ : Loc) (D : Addr) (ys : List PyData) (s' : Shared) : Prop :=
 ∃ G' θ', Ext [env.locals, D] G θ s G' θ' s' /\ Inv prog w base G' θ' s' μ' /\ CompRep prog w G' θ' s'.heap env ⟨sc, ρ⟩ /\ Acc G' θ' s'.heap env D ys
noncomputable def CompStep (r : Rec) (sc : Scope) (ρ : Loc) (tgt : Expr) (ifs : List Expr) (cM : List PyData -> Sto -> Option (List PyData × Sto)) (step : Loc -> Sto -> Option (List PyData × Sto)) (x : PyData) (xs : List PyData) (μ : Sto) (z : List PyData × Sto) : Prop :=
 ∃ ρ1 ok μ1, bindT sc false tgt x ρ = some ρ1 /\ testsM (r.tr ⟨sc, ρ1⟩) ifs μ = some (ok, μ1) /\
   ((ok = true /\ ∃ y μ2 ys', step ρ1 μ1 = some (y, μ2) /\ cM xs μ2 = some (ys', z.2) /\ y ++ ys' = z.1) \/ (ok = false /\ cM xs μ1 = some z))
noncomputable def CompAt (prog : Program) (w : World) (base : Heap) (env : Env) (sc : Scope) (ρ : Loc) (cM : List PyData -> Sto -> Option (List PyData × Sto)) (xs all : List PyData) (μ' : Sto) (G : Heap) (θ : List Addr) (s₀ : Shared) (fp wr : List Addr) (St : Nat -> Heap -> Prop) (D : Addr)
   (k : Nat) (s1 : Shared) : Prop :=
 ∃ i G1 θ1 μ1 rest done1, k = xs.length + 1 - i /\ i <= xs.length /\ cM (xs.drop i) μ1 = some (rest, μ') /\ done1 ++ rest = all /\
     Turn prog w base env G θ s₀ fp wr St (fun G θ h ρ => CompRep prog w G θ h env ⟨sc, ρ⟩) i G1 θ1 μ1 ρ [env.locals, D] s1 /\ Acc G1 θ1 s1.heap env D done1
theorem sub_minus {i n : Nat} (h : i < n) : n + 1 - (i + 1) < n + 1 - i := Nat.sub_lt_sub_left (Nat.lt_succ_of_lt h) (Nat.lt_succ_self i)
theorem s_compLoop {elt tgt it : Expr} {ifs : List Expr} {gens : List Comprehension} {csc : Scope} {pos : Pos} {d : Nat} {Ia D : Addr} {xs done ys : List PyData} {s₀ : Shared} {fp wr : List Addr} {Pp Md : Nat -> Value -> Heap -> Prop} {St : Nat -> Heap -> Prop}
   {cM : List PyData -> Sto -> Option (List PyData × Sto)} {step : Loc -> Sto -> Option (List PyData × Sto)}
   (hg : gens[d]? = some ⟨tgt, it, ifs, 0⟩) (hg' : ∀ g', gens[d + 1]? = some g' -> g'.is_async = 0 /\ ∀ x, foldedSetIterable g'.iter env x = pure x) (ht : STr prog w base r n) (hroom : Room A n)
   (c0 : ∀ μ, cM [] μ = some ([], μ)) (c1 : ∀ x xs μ z, cM (x :: xs) μ = some z -> CompStep r sc ρ tgt ifs cM step x xs μ z)
   (body : ∀ {G : Heap} {θ : List Addr} {s : Shared} {μ : Sto} {ρ1 : Loc} {y : List PyData} {μ2 : Sto} {done : List PyData} {K : Shared -> Prop}, step ρ1 μ = some (y, μ2) -> Inv prog w base G θ s μ -> CompRep prog w G θ s.heap env ⟨sc, ρ1⟩ -> Acc G θ s.heap env D done -> (done ++ y).length <= 100000 ->
     (∀ s', CPost prog w base G θ s μ2 env sc ρ1 D (done ++ y) s' -> K s') -> CompBody prog w A elt gens csc pos d (.ref D) env K s)
   (I : Inv prog w base G θ s₀ μ) (R : CompRep prog w G θ s₀.heap env ⟨sc, ρ⟩) (C : Acc G θ s₀.heap env D done) (hsame : ∃ h t, s = { s₀ with heap := h, toks := t }) (hkp : ∀ b o, s₀.heap.get? b = some o -> s.heap.get? b = some o)
   (Fd : Feed prog w A tgt Ia G s.heap s₀.heap xs fp wr Pp Md St) (h : cM xs μ = some (ys, μ')) (hz : (done ++ ys).length <= 100000) :
   codeAny (model prog w) A (.compLoop (.ListComp elt gens csc pos) d (.ref Ia) (.ref D) env) (fun q s' => ∃ f, q = .ok f /\ CPost prog w base G θ s₀ μ' env sc ρ D (done ++ ys) s') s := by
 have F := compFrame prog w base env sc
 have inL : ∀ b ∈ [env.locals], b ∈ [env.locals, D] := fun b hb => List.mem_cons.mpr (.inl (List.mem_singleton.mp hb))
 refine codeAny_comp hg rfl hg' (CompAt prog w base env sc ρ cM xs (done ++ ys) μ' G θ s₀ fp wr St D) ?_ (xs.length + 1)
   ⟨0, G, θ, μ, ys, done, rfl, Nat.zero_le _, h, rfl, Turn.init F I R (fun b hb => ?_) hsame hkp Fd, ?_⟩
 · rintro k s1 ⟨i, G1, θ1, μ1, rest, done1, rfl, hi, hf, hdone, T, C1⟩
   have hDw : D ∉ wr := fun q => (T.wrOk D q).2.2.2 (List.mem_cons_of_mem _ List.mem_cons_self)
   rcases Nat.lt_or_ge i xs.length with hlt | hge
   · rw [show xs.drop i = xs[i] :: xs.drop (i + 1) from List.drop_eq_getElem_cons hlt] at hf
     obtain ⟨ρ1, ok, μ2, h1, h2, h3⟩ := c1 _ _ _ _ hf
     refine T.next Fd F (List.getElem?_eq_getElem hlt) fun v s2 hgo => hgo _ fun s3 T3 hit e3 => ?_
     refine s_assignT hroom.hand F T3.inv T3.rep h1 hit fun s4 e4 I4 R4 => ?_
     have C4 := (C1.ext e3 hDw).ext e4 fun q => C1.offE (by rw [List.mem_singleton.mp q]; exact WF_locals env)
     have T4 := T3.ran Fd.turns.frame (fun b hb => .inr (inL b hb)) (fun b hb => .inl (inL b hb)) e4 I4 (R4.drop (bindT_keep h1))
     refine wpAny_mono (s_tests ht hroom I4 R4.rep h2) (fun ok' s5 p5 => p5.el fun e G5 θ5 e5 I5 => ?_) fun _ _ x => x
     subst e
     have C5 := C4.ext e5 fun q => nomatch q
     have R5 := R4.ext e5
     have T5 := T4.ran Fd.turns.frame (Y := []) (fun _ q => nomatch q) (fun _ q => nomatch q) e5 I5 (R5.drop (bindT_keep h1))
     have lt := sub_minus hlt
     rcases h3 with ⟨rfl, y, μ3, ys', h4, h5, rfl⟩ | ⟨rfl, h4⟩
     · refine body h4 I5 R5 C5 (Nat.le_trans ?_ hz) fun s7 p => ?_
       · rw [<- hdone, <- List.append_assoc, List.length_append (bs := ys')]; exact Nat.le_add_right _ _
       obtain ⟨G7, θ7, e7, I7, R7, C7⟩ := p
       exact ⟨_, lt, i + 1, G7, θ7, μ3, ys', done1 ++ y, rfl, hlt, h5, (List.append_assoc _ _ _).trans hdone, T5.ran Fd.turns.frame (fun b hb => .inr hb) (fun b hb => .inl hb) e7 I7 (R7.drop (bindT_keep h1)), C7⟩
     · exact ⟨_, lt, i + 1, G5, θ5, μ2, rest, done1, rfl, hlt, h4, hdone, T5, C5⟩
   · obtain rfl := Nat.le_antisymm hi hge
     rw [List.drop_length, c0] at hf
     obtain ⟨rfl, rfl⟩ := Prod.mk.inj (Option.some.inj hf)
     refine Fd.turns.done s1 _ _ T.st fun h' tk hk => ?_
     have hkW : ∀ b o, b ∉ wr -> s1.heap.get? b = some o -> h'.get? b = some o := hk
     refine ⟨_, rfl, G1, θ1, T.x.last hkW (fun b hb => (Fd.wrNew b hb).1) fun b hb => (List.mem_append.mp hb).imp id fun q => (Fd.wrNew b q).1,
       T.inv.other hkW (fun b hb => (T.wrOk b hb).1) fun b hb => (T.wrOk b hb).2.1, F.kept T.rep fun b hb o e => hkW b o (fun q => (T.wrOk b q).2.2.1 hb) e, ?_⟩
     obtain ⟨⟨vs, as, ⟨kk, ho⟩, ra⟩, q1, q2, q3⟩ := C1
     rw [<- hdone, List.append_nil]
     exact ⟨⟨vs, as, ⟨kk, hkW D _ hDw ho⟩, ra⟩, q1, q2, q3⟩
 · rcases List.mem_cons.mp hb with rfl | hb
   · exact (R.rep.own _ (WF_locals env)).2
   · obtain rfl := List.mem_singleton.mp hb
     obtain ⟨vs, as, ⟨k, ho⟩, _⟩ := C.at_
     exact ⟨_, ho⟩
 · obtain ⟨h', t, rfl⟩ := hsame
   exact C.ext (Ext.grow (t := t) hkp) fun q => nomatch q
noncomputable def lastStep (r : Rec) (sc : Scope) (elt : Expr) (ρ : Loc) (μ : Sto) : Option (List PyData × Sto) := (r.ev ⟨sc, ρ⟩ elt μ).bind fun v => (datOf v.1).bind fun y => some ([y], v.2)
theorem compM_cons {elt tgt : Expr} {ifs : List Expr} {x : PyData} {xs : List PyData} {z : List PyData × Sto} (h : compM r ⟨sc, ρ⟩ elt tgt ifs (x :: xs) μ = some z) : CompStep r sc ρ tgt ifs (compM r ⟨sc, ρ⟩ elt tgt ifs) (lastStep r sc elt) x xs μ z :=
 bind1 h fun ρ1 h1 h => bind2 h fun ok μ1 h2 h => ⟨ρ1, ok, μ1, h1, h2, by
   cases ok with
   | false => exact .inr ⟨rfl, h⟩
   | true => exact bind1 h fun v h3 h => bind1 h fun y h4 h => bind1 h fun q h5 h => .inl ⟨rfl, [y], v.2, q.1, by rw [lastStep, h3]; exact congrArg (Option.bind · _) h4, by rw [<- Option.some.inj h]; exact h5, congrArg (·.1) (Option.some.inj h)⟩⟩
theorem s_compLast {elt tgt it : Expr} {ifs : List Expr} {gens : List Comprehension} {csc : Scope} {pos : Pos} {d : Nat} {Ia D : Addr} {xs done ys : List PyData} {s₀ : Shared} {fp wr : List Addr} {Pp Md : Nat -> Value -> Heap -> Prop} {St : Nat -> Heap -> Prop}
   (hg : gens[d]? = some ⟨tgt, it, ifs, 0⟩) (hg' : gens[d + 1]? = none) (hs : SEv prog w base r n) (ht : STr prog w base r n) (hroom : Room A n)
   (I : Inv prog w base G θ s₀ μ) (R : CompRep prog w G θ s₀.heap env ⟨sc, ρ⟩) (C : Acc G θ s₀.heap env D done) (hsame : ∃ h t, s = { s₀ with heap := h, toks := t }) (hkp : ∀ b o, s₀.heap.get? b = some o -> s.heap.get? b = some o)
   (Fd : Feed prog w A tgt Ia G s.heap s₀.heap xs fp wr Pp Md St) (h : compM r ⟨sc, ρ⟩ elt tgt ifs xs μ = some (ys, μ')) (hz : (done ++ ys).length <= 100000) :
   codeAny (model prog w) A (.compLoop (.ListComp elt gens csc pos) d (.ref Ia) (.ref D) env) (fun q s' => ∃ f, q = .ok f /\ CPost prog w base G θ s₀ μ' env sc ρ D (done ++ ys) s') s := by
 refine s_compLoop hg (fun g' e => no_some (hg'.symm.trans e)) ht hroom (fun _ => rfl) (fun _ _ _ _ => compM_cons) (fun {G θ s μ ρ1 y μ2 done K} h I R C hz hK => ?_) I R C hsame hkp Fd h hz
 refine bind2 h fun v μ3 h1 h => bind1 h fun u h2 h => inj2 h fun e e' => ?_
 subst e'
 unfold CompBody
 rw [hg']
 refine wpAny_mono (hs A G θ s μ env ⟨sc, ρ1⟩ elt v μ3 hroom I R.rep h1) (fun v6 s6 p6 => p6.el fun G6 θ6 e6 I6 r6 => (of_dat h2 ▸ r6 : RV prog w G6 θ6 v6 (.d u)).data.elim fun as q => ?_) fun _ _ x => x
 have R6 := R.ext e6
 have C6 := C.ext e6 fun q => nomatch q
 refine C6.append I6 q (Nat.le_trans (List.length_append.symm ▸ Nat.le_add_right _ _) hz) fun s7 e7 I7 C7 => hK s7 ⟨G6, θ6, (e6.weaken fun _ q => nomatch q).trans (e7.weaken fun b hb => List.mem_cons_of_mem _ hb), I7,
   R6.extW e7 (fun q => C6.offE (by rw [<- List.mem_singleton.mp q]; exact WF_locals env)) (fun y c hc q => C6.offE (by rw [<- List.mem_singleton.mp q]; exact WF_cell hc)), e ▸ C7⟩
end
end Mine
end
section
namespace Mine
open PySem PySem.W PyProof.Rows PySem.Spec
section
variable {P : Par} {prog : Program} {w : World} {base G G' : Heap} {θ θ' : List Addr} {s s' : Shared} {μ μ' : Sto} {A : Around} {n : Nat} {r : Rec} {env : Env} {fm : Fm} {sc : Scope} {ρ ρ' : Loc} {c : Bool} {W : List Addr}
 {Rp : Heap -> List Addr -> Heap -> Loc -> Prop}
noncomputable def firstStep (P : Par) (r : Rec) (sc : Scope) (elt tgt2 it2 : Expr) (ifs2 : List Expr) (ρ : Loc) (μ : Sto) : Option (List PyData × Sto) := (iterM P r ⟨sc, ρ⟩ it2 μ).bind fun l => if apart tgt2 l.1 then none else compM r ⟨sc, ρ⟩ elt tgt2 ifs2 l.1.2 l.2
theorem apart_no {t : Expr} {l : Bool × List PyData} (h : ¬ (apart t l) = true) (e : l.1 = true) : isPairT t = true := by
 cases hp : isPairT t with
 | true => rfl
 | false => exact absurd (show (l.1 && !isPairT t) = true by rw [e, hp]; rfl) h
theorem compM2_cons {elt tgt tgt2 it2 : Expr} {ifs ifs2 : List Expr} {x : PyData} {xs : List PyData} {z : List PyData × Sto} (h : compM2 P r ⟨sc, ρ⟩ elt tgt ifs tgt2 it2 ifs2 (x :: xs) μ = some z) :
   CompStep r sc ρ tgt ifs (compM2 P r ⟨sc, ρ⟩ elt tgt ifs tgt2 it2 ifs2) (firstStep P r sc elt tgt2 it2 ifs2) x xs μ z :=
 bind1 h fun ρ1 h1 h => bind2 h fun ok μ1 h2 h => ⟨ρ1, ok, μ1, h1, h2, by
   cases ok with
   | false => exact .inr ⟨rfl, h⟩
   | true => exact bind1 h fun l h3 h => if_no h fun hk h => bind1 h fun y h5 h => bind1 h fun q h6 h => .inl ⟨rfl, y.1, y.2, q.1, by rw [firstStep, h3]; exact (if_neg hk).trans h5, by rw [<- Option.some.inj h]; exact h6, congrArg (·.1) (Option.some.inj h)⟩⟩
theorem s_compFirst {elt tgt it tgt2 it2 : Expr} {ifs ifs2 : List Expr} {csc : Scope} {pos : Pos} {Ia D : Addr} {xs done ys : List PyData} {s₀ : Shared} {fp wr : List Addr} {Pp Md : Nat -> Value -> Heap -> Prop} {St : Nat -> Heap -> Prop}
   (B : BaseOk P prog w base) (hs : SEv prog w base r n) (ht : STr prog w base r n) (hst : NoStar r) (hroom : Room A n)
   (I : Inv prog w base G θ s₀ μ) (R : CompRep prog w G θ s₀.heap env ⟨sc, ρ⟩) (C : Acc G θ s₀.heap env D done) (hsame : ∃ h t, s = { s₀ with heap := h, toks := t }) (hkp : ∀ b o, s₀.heap.get? b = some o -> s.heap.get? b = some o)
   (Fd : Feed prog w A tgt Ia G s.heap s₀.heap xs fp wr Pp Md St) (h : compM2 P r ⟨sc, ρ⟩ elt tgt ifs tgt2 it2 ifs2 xs μ = some (ys, μ')) (hz : (done ++ ys).length <= 100000)
   (hf2 : ∀ x, foldedSetIterable it2 env x = pure x) :
   codeAny (model prog w) A (.compLoop (.ListComp elt [⟨tgt, it, ifs, 0⟩, ⟨tgt2, it2, ifs2, 0⟩] csc pos) 0 (.ref Ia) (.ref D) env) (fun q s' => ∃ f, q = .ok f /\ CPost prog w base G θ s₀ μ' env sc ρ D (done ++ ys) s') s := by
 refine s_compLoop (d := 0) rfl (fun g' e => Option.some.inj e ▸ ⟨rfl, hf2⟩) ht hroom (fun _ => rfl) (fun _ _ _ _ => compM2_cons) (fun {G θ s μ ρ1 y μ2 done K} h I R C hz hK => ?_) I R C hsame hkp Fd h hz
 refine bind1 h fun l h1 h => if_no h fun hk h => ?_
 show wpAny _ _ (eval it2 env) _ _ _
 refine wpAny_mono (s_iter (tgt := tgt2) B hs hst hroom I R.rep (fun e => apart_no hk e) h1).2 (fun xv s6 z6 => wpAny_mono z6 (fun itv s7 p7 => ?_) fun _ _ x => x) fun _ _ x => x
 obtain ⟨G7, θ7, s60, Ia2, fp2, wr2, Pp2, Md2, St2, rfl, e6, I6, hsame2, hkp2, Fd2⟩ := p7
 have loop := codeAny_mono (s_compLast (csc := csc) (pos := pos) (gens := [⟨tgt, it, ifs, 0⟩, ⟨tgt2, it2, ifs2, 0⟩]) (d := 1) rfl rfl hs ht hroom I6 (R.ext e6) (C.ext e6 fun q => nomatch q) hsame2 hkp2 Fd2 h hz)
   (R' := fun q s => ∃ f, q = .ok f /\ K s) (fun q s8 z => z.elim fun f z => ⟨f, z.1, hK s8 (z.2.elim fun G8 z => z.elim fun θ8 z => ⟨G8, θ8, (e6.weaken fun _ q => nomatch q).trans z.1, z.2⟩)⟩)
 exact codeAny_compStart rfl rfl loop (Fd2.self 0 _ _ _ Fd2.st loop)
end
end Mine
end
section
namespace Mine
open PySem PySem.W PyProof.Rows PySem.Spec
theorem lookup_dropL (sc : Scope) (y : Str) (ρ : Loc) : (dropL sc ρ).lookup y = if sc.names.lookup y = some .local then none else ρ.lookup y := by
 induction ρ with
 | nil => by_cases h : sc.names.lookup y = some .local <;> first | (rw [if_pos h]; rfl) | (rw [if_neg h]; rfl)
 | cons q r ih =>
   obtain ⟨k, v⟩ := q
   unfold dropL at ih ⊢
   rw [List.filter_cons]
   by_cases hk : sc.names.lookup k = some .local
   · have : (!(sc.names.lookup k == some .local)) = false := by rw [hk]; rfl
     simp only [this, Bool.false_eq_true, if_false]
     rw [ih, List.lookup_cons]
     by_cases hy : y = k
     · subst hy; rw [if_pos hk, if_pos hk]
     · rw [beq_eq_false_iff_ne.mpr hy]
   · have : (!(sc.names.lookup k == some .local)) = true := by
       cases h : (sc.names.lookup k == some .local) with
       | true => exact absurd (beq_iff_eq.mp h) hk
       | false => rfl
     simp only [this, if_true]
     rw [List.lookup_cons, List.lookup_cons, ih]
     by_cases hy : y = k
     · subst hy; rw [if_neg hk]; simp [hk]
     · rw [beq_eq_false_iff_ne.mpr hy]
theorem relabel_lookup (sc : Scope) (env : Env) (y : Str) : (relabel sc env).names.lookup y = (sc.names.lookup y).map fun k => if (k == .free && env.scope.kind == .function && env.kindOf y == some .cell) = true then .cell else k := by
 show List.lookup y (sc.names.map _) = _
 induction sc.names with
 | nil => rfl
 | cons p r ih =>
   obtain ⟨k, kd⟩ := p
   show List.lookup y ((if (kd == NameKind.free && env.scope.kind == .function && env.kindOf k == some .cell) = true then (k, NameKind.cell) else (k, kd)) :: _) = _
   by_cases hc : (kd == NameKind.free && env.scope.kind == .function && env.kindOf k == some .cell) = true
   · rw [if_pos hc, List.lookup_cons, List.lookup_cons]
     by_cases hy : y = k
     · subst hy; rw [beq_iff_eq.mpr rfl]; simp only [Option.map_some]; rw [if_pos hc]
     · rw [beq_eq_false_iff_ne.mpr hy]; exact ih
   · rw [if_neg hc, List.lookup_cons, List.lookup_cons]
     by_cases hy : y = k
     · subst hy; rw [beq_iff_eq.mpr rfl]; simp only [Option.map_some]; rw [if_neg hc]
     · rw [beq_eq_false_iff_ne.mpr hy]; exact ih
theorem closure_gives {sc : Scope} {env : Env} (h : ∀ p ∈ sc.names, p.2 = .free -> ∃ c, env.cells.lookup p.1 = some c) :
   ∃ cl, closureFor sc env = pure cl /\ (∀ y c, (y, c) ∈ cl -> env.cells.lookup y = some c) /\ ∀ y, (y, .free) ∈ sc.names -> ∃ c, (y, c) ∈ cl := by
 unfold closureFor
 have key : ∀ (l : List (Str × NameKind)) (acc : List (Str × Addr)), (∀ p ∈ l, p.2 = .free -> ∃ c, env.cells.lookup p.1 = some c) -> (∀ y c, (y, c) ∈ acc -> env.cells.lookup y = some c) ->
     ∃ cl, (forIn l acc fun (p : Str × NameKind) (cs : List (Str × Addr)) => if (p.2 == .free) = true then (do let a <- cellOf env p.1; pure (ForInStep.yield ((p.1, a) :: cs))) else pure (ForInStep.yield cs) : Sem _) = pure cl /\
       (∀ y c, (y, c) ∈ cl -> env.cells.lookup y = some c) /\ (∀ x ∈ acc, x ∈ cl) /\ ∀ y, (y, .free) ∈ l -> ∃ c, (y, c) ∈ cl := by
   intro l
   induction l with
   | nil => intro acc _ ha; exact ⟨acc, by rw [List.forIn_nil], ha, fun _ h => h, fun _ h => nomatch h⟩
   | cons p r ih =>
     intro acc hf ha
     obtain ⟨k, kd⟩ := p
     rw [List.forIn_cons]
     by_cases hk : kd = .free
     · subst hk
       obtain ⟨c, hc⟩ := hf (k, .free) List.mem_cons_self rfl
       obtain ⟨cl, h1, h2, h3, h4⟩ := ih ((k, c) :: acc) (fun p hp => hf p (List.mem_cons_of_mem _ hp)) (fun y d hm => by
         rcases List.mem_cons.mp hm with e | hm
         · cases e; exact hc
         · exact ha y d hm)
       refine ⟨cl, ?_, h2, fun x hx => h3 x (List.mem_cons_of_mem _ hx), fun y hy => ?_⟩
       · have : cellOf env k = pure c := by unfold cellOf; rw [hc]
         rw [if_pos (by rfl), this]
         exact h1
       · rcases List.mem_cons.mp hy with e | hy
         · cases e; exact ⟨c, h3 _ List.mem_cons_self⟩
         · exact h4 y hy
     · obtain ⟨cl, h1, h2, h3, h4⟩ := ih acc (fun p hp => hf p (List.mem_cons_of_mem _ hp)) ha
       refine ⟨cl, ?_, h2, h3, fun y hy => ?_⟩
       · have : (kd == NameKind.free) = false := by simpa using hk
         rw [if_neg (by rw [this]; decide)]
         exact h1
       · rcases List.mem_cons.mp hy with e | hy
         · cases e; exact absurd rfl hk
         · exact h4 y hy
 obtain ⟨cl, h1, h2, _, h4⟩ := key sc.names [] h (fun _ _ h => nomatch h)
 refine ⟨cl, ?_, h2, h4⟩
 have e : (forIn sc.names [] fun (x : Str × NameKind) (__s : List (Str × Addr)) => (match x with
     | (name, kind) => if (kind == NameKind.free) = true then (do let a <- cellOf env name; pure (ForInStep.yield ((name, a) :: __s))) else pure (ForInStep.yield __s) : Sem _)) = (pure cl : Sem _) := h1
 show (forIn sc.names [] _ >>= fun cs => pure cs) = pure cl
 rw [e]; rfl
section
variable {P : Par} {prog : Program} {w : World} {base G G' : Heap} {θ θ' : List Addr} {s s' : Shared} {μ μ' : Sto} {A : Around} {n : Nat} {r : Rec} {env : Env} {fm : Fm} {sc : Scope} {ρ ρ' : Loc} {c : Bool} {W : List Addr}
theorem compOk_mem {fm : Fm} (h : compOk sc fm = true) : sc.kind = .function /\ ∀ p ∈ sc.names, sc.names.lookup p.1 = some p.2 /\ p.1 ≠ ("__classdict__" : Str) /\
   (p.2 = .local \/ p.2 = .globalImplicit \/ (p.2 = .free /\ (∃ V, fm.loc.lookup p.1 = some V) /\ (fm.sc.names.lookup p.1 = some .cell \/ fm.sc.names.lookup p.1 = some .free))) := by
 refine ⟨beq_iff_eq.mp (and_t h).1, fun p hp => ?_⟩
 obtain ⟨a, b, c⟩ := and3 (List.all_eq_true.mp (and_t h).2 p hp)
 refine ⟨beq_iff_eq.mp a, bne_iff_ne.mp b, ?_⟩
 obtain ⟨x, k⟩ := p
 cases k with
 | «local» => exact .inl rfl
 | globalImplicit => exact .inr (.inl rfl)
 | free => exact .inr (.inr ⟨rfl, Option.isSome_iff_exists.mp (and_t c).1, (Bool.or_eq_true_iff.mp (and_t c).2).imp beq_iff_eq.mp beq_iff_eq.mp⟩)
 | _ => exact no_ft c
theorem CompRep.enter {fm : Fm} {cl : List (Str × Addr)} {C : Addr} {h' : Heap} (hok : compOk sc fm = true) (R : EnvRep prog w G θ s.heap env fm) (h1 : ∀ y c, (y, c) ∈ cl -> env.cells.lookup y = some c) (h2 : ∀ y, (y, .free) ∈ sc.names -> ∃ c, (y, c) ∈ cl)
   {m : Str -> Option Value} (hn : h'.Ns C m) (hkp : ∀ b o, s.heap.get? b = some o -> h'.get? b = some o) (hC : s.heap.get? C = none) (hθ : C ∉ θ) (hG : G.get? C = none) :
   CompRep prog w G θ h' (compEnvC sc cl C env) ⟨sc, dropL sc fm.loc⟩ := by
 obtain ⟨hkind, hall⟩ := compOk_mem hok
 have hk : ∀ y, (compEnvC sc cl C env).kindOf y = (sc.names.lookup y).map fun k => if (k == .free && env.scope.kind == .function && env.kindOf y == some .cell) = true then .cell else k := relabel_lookup sc env
 have own : ∀ y c, (y, c) ∈ cl -> (c ∉ θ /\ G.get? c = none) /\ ∃ o, s.heap.get? c = some o := fun y c hc => R.ownC y c (mem_of_lookup (h1 y c hc))
 refine ⟨⟨hkind, R.glob, R.blt, fun y h => ?_, fun y h => ?_, fun y h => ?_, fun y h => ?_, ⟨m, hn, fun y V hl hv => ?_⟩, fun y V hl hv => ?_, ⟨hθ, hG⟩, fun y c hc => ?_⟩, fun y c hc => ?_⟩
 · rw [hk, h]; rfl
 · rw [hk]
   rcases h with h | h
   · rw [h]; exact .inl rfl
   · rw [h]
     simp only [Option.map_some, Option.some.injEq]
     split
     · exact .inl rfl
     · exact .inr rfl
 · rw [hk, h]; rfl
 · rw [hk] at h
   obtain ⟨k, hk1, hk2⟩ := Option.map_eq_some_iff.mp h
   exact beq_eq_false_iff_ne.mpr (hall _ (mem_of_lookup hk1)).2.1
 · rw [lookup_dropL] at hv
   simp only at hl hv
   rw [if_pos hl] at hv; exact no_some hv
 · rw [lookup_dropL] at hv
   simp only at hl hv
   split at hv
   · exact no_some hv
   · have hfree : sc.names.lookup y = some .free := by
       rcases hl with hl | hl
       · rcases (hall _ (mem_of_lookup hl)).2.2 with q | q | ⟨q, _⟩ <;> cases q
       · exact hl
     obtain ⟨_, _, h3⟩ := hall _ (mem_of_lookup hfree)
     rcases h3 with q | q | ⟨_, _, q⟩
     · cases q
     · cases q
     · obtain ⟨c, v, g1, ⟨o, ho, hd⟩, g3⟩ := R.cel y V q hv
       obtain ⟨d, hd2⟩ := h2 y (mem_of_lookup hfree)
       have hcl : cl.lookup y = some c := by
         cases hq : cl.lookup y with
         | none =>
           exfalso
           have : ∀ l : List (Str × Addr), (y, d) ∈ l -> l.lookup y ≠ none := by
             intro l
             induction l with
             | nil => intro h; cases h
             | cons p r ih =>
               intro h
               obtain ⟨a, b⟩ := p
               rw [List.lookup_cons]
               rcases List.mem_cons.mp h with e | h
               · cases e; simp
               · cases hya : y == a with
                 | true => simp
                 | false => exact ih h
           exact this cl hd2 hq
         | some d' =>
           have := h1 y d' (mem_of_lookup hq)
           rw [g1] at this; (refine inj1 this ?_; clear this; rintro rfl); rfl
       exact ⟨c, v, hcl, ⟨o, hkp _ _ ho, hd⟩, g3⟩
 · obtain ⟨g1, o, g2⟩ := own y c hc
   exact ⟨g1, o, hkp _ _ g2⟩
 · obtain ⟨g1, o, g2⟩ := own y c hc
   intro e
   have e : c = C := e
   rw [e, hC] at g2; exact no_some g2
theorem Feed.move {tgt : Expr} {Ia : Addr} {xs : List PyData} {h h' s₀ s₁ : Heap} {fp wr : List Addr} {Pp Md : Nat -> Value -> Heap -> Prop} {St : Nat -> Heap -> Prop} (Fd : Feed prog w A tgt Ia G h s₀ xs fp wr Pp Md St)
   (hk : ∀ b o, h.get? b = some o -> h'.get? b = some o) (hn : ∀ b o, s₀.get? b = none -> h.get? b = some o -> s₁.get? b = none) : Feed prog w A tgt Ia G h' s₁ xs fp wr Pp Md St where
 turns := Fd.turns
 st := Fd.turns.frame _ _ _ Fd.st fun b _ o e => hk b o e
 item := Fd.item
 fpOk := fun b hb => by
   rcases Fd.fpOk b hb with h | ⟨h1, o, h2⟩
   · exact .inl h
   · exact .inr ⟨hn b o h1 h2, o, hk b o h2⟩
 wrNew := fun b hb => let ⟨h1, o, h2⟩ := Fd.wrNew b hb; ⟨hn b o h1 h2, o, hk b o h2⟩
 wrLive := Fd.wrLive
 self := Fd.self
end
end Mine
end
section
namespace Mine
open PySem PySem.W PyProof.Rows PySem.Spec
section
variable {P : Par} {prog : Program} {w : World} {base G G' : Heap} {θ θ' : List Addr} {s s' : Shared} {μ μ' : Sto} {A : Around} {n : Nat} {r : Rec} {env : Env} {fm : Fm} {sc : Scope} {ρ ρ' : Loc} {c : Bool} {W : List Addr}
noncomputable def CDone (prog : Program) (w : World) (base G : Heap) (θ : List Addr) (s : Shared) (μ' : Sto) (C D : Addr) (ys : List PyData) (s' : Shared) : Prop :=
 ∃ G' θ' m, Ext [C, D] G θ s G' θ' s' /\ Inv prog w base G' θ' s' μ' /\ s'.heap.Ns C m /\ (C ∉ θ' /\ G'.get? C = none) /\ (∃ vs as k, s'.heap.get? D = some (seqObj "list" vs k) /\ ReadsAll G' vs.toList ys as /\ D ∉ θ' /\ G'.get? D = none) /\
   s.heap.get? C = none /\ s.heap.get? D = none /\ C ≠ D
theorem s_compBlock {elt tgt it : Expr} {ifs : List Expr} {rest : List Comprehension} {pos : Pos} {cl : List (Str × Addr)} {xs ys : List PyData} {μ1 : Sto} (B : BaseOk P prog w base) (hs : SEv prog w base r n) (hst : NoStar r) (hroom : Room A n)
   (hok : compOk sc fm = true) (I : Inv prog w base G θ s μ) (R : EnvRep prog w G θ s.heap env fm) (h1 : ∀ y c, (y, c) ∈ cl -> env.cells.lookup y = some c) (h2 : ∀ y, (y, .free) ∈ sc.names -> ∃ c, (y, c) ∈ cl)
   (hit : wpAny (model prog w) A (eval it env) (fun x s1 => wpAny (model prog w) A (pyIter x) (FeedPost prog w base A tgt G θ s μ1 xs) no s1) no s)
   (loop : ∀ (G1 : Heap) (θ1 : List Addr) (s₀ s1 : Shared) (C D Ia : Addr) fp wr Pp Md St, Inv prog w base G1 θ1 s₀ μ1 -> CompRep prog w G1 θ1 s₀.heap (compEnvC sc cl C env) ⟨sc, dropL sc fm.loc⟩ -> Acc G1 θ1 s₀.heap (compEnvC sc cl C env) D [] ->
     (∃ h t, s1 = { s₀ with heap := h, toks := t }) -> (∀ b o, s₀.heap.get? b = some o -> s1.heap.get? b = some o) -> Feed prog w A tgt Ia G1 s1.heap s₀.heap xs fp wr Pp Md St ->
     codeAny (model prog w) A (.compLoop (.ListComp elt (⟨tgt, it, ifs, 0⟩ :: rest) sc pos) 0 (.ref Ia) (.ref D) (compEnvC sc cl C env)) (fun q s' => ∃ f, q = .ok f /\ CPost prog w base G1 θ1 s₀ μ' (compEnvC sc cl C env) sc (dropL sc fm.loc) D ys s') s1) :
   wpAny (model prog w) A (eval it env) (fun x s₁ => wpAny (model prog w) A (pyIter x) (fun itv s₂ => wpAny (model prog w) A (newList []) (fun acc s₃ =>
     wpAny (model prog w) A (newFunctionEnv sc env.globals cl [] env.qual none .none (some env)) (fun cenv s₄ =>
       codeAny (model prog w) A (.compStart (.ListComp elt (⟨tgt, it, ifs, 0⟩ :: rest) sc pos) 0 itv acc { cenv with scope := relabel sc env }) (fun q s' => ∃ f D, q = .ok f /\ acc = .ref D /\ CDone prog w base G θ s μ' cenv.locals D ys s') s₄) no s₃) no s₂) no s₁) no s := by
 obtain ⟨hkind, hall⟩ := compOk_mem hok
 refine wpAny_mono hit (fun x s₁ z => wpAny_mono z (fun itv s₂ p => ?_) fun _ _ q => q) fun _ _ q => q
 obtain ⟨G1, θ1, s0, Ia, fp, wr, Pp, Md, St, rfl, e1, I1, ⟨h2', t2, rfl⟩, hkp, Fd⟩ := p
 simp only at hkp Fd
 refine wpAny_newList ?_ (by rw [sizeLine_is]; simp)
 refine wpAny_newFunctionEnv (fun y hy hc => ?_) (fun y hy => nomatch hy) (fun h₁ hns hsb => ?_) hkind
 · rcases (hall y hy).2.2 with q | q | ⟨q, _⟩ <;> rw [hc] at q <;> cases q
 · dsimp only at hns hsb ⊢
   generalize hD : h2'.objs.size = D at *
   generalize hH3 : h2'.push { cls := .type "list", data := .seq ([] : List Value).toArray } = h3 at hns hsb ⊢
   have hC3 : h3.objs.size = D + 1 := by rw [<- hH3, Heap.size_push, hD]
   generalize hC : h3.objs.size = C at *
   have hCD : C ≠ D := by rw [hC3]; exact Nat.succ_ne_self _
   have hfD : h2'.get? D = none := none_of_ge (Nat.le_of_eq hD)
   have hfC : h2'.get? C = none := none_of_ge (by rw [hD, hC3]; exact Nat.le_succ _)
   have up : ∀ b o, h2'.get? b = some o -> h₁.get? b = some o := fun b o e => by
     have hb : b ≠ C := by rintro rfl; rw [hfC] at e; exact no_some e
     exact hsb.extBut b o hb (Heap.get?_push_of_some _ (hH3 ▸ Heap.get?_push_of_some _ e))
   have hoD : h₁.get? D = some (seqObj "list" #[] 0) := hsb.extBut D _ hCD.symm (Heap.get?_push_of_some _ (hH3 ▸ hD ▸ Heap.get?_push_size _ rfl))
   obtain ⟨oC, esC, epC, hoC, hrC⟩ := id hns
   have f0 : ∀ b, h2'.get? b = none -> s0.heap.get? b = none := fun b e => by
     cases q : s0.heap.get? b with
     | none => rfl
     | some o => rw [hkp b o q] at e; cases e
   have f0D := f0 D hfD
   have f0C := f0 C hfC
   let s₀ : Shared := { s0 with heap := plus (plus s0.heap D (seqObj "list" #[] 0)) C oC }
   have gC : s₀.heap.get? C = some oC := plus_self (not_freed hoC)
   have gD : s₀.heap.get? D = some (seqObj "list" #[] 0) := (plus_other hCD.symm).trans (plus_self rfl)
   have gO : ∀ b, b ≠ C -> b ≠ D -> s₀.heap.get? b = s0.heap.get? b := fun b b1 b2 => (plus_other b1).trans (plus_other b2)
   have k0 : ∀ b o, s0.heap.get? b = some o -> s₀.heap.get? b = some o := fun b o e => by
     rw [gO b (by rintro rfl; rw [f0C] at e; exact no_some e) (by rintro rfl; rw [f0D] at e; exact no_some e)]; exact e
   have I₀ : Inv prog w base G1 θ1 s₀ μ1 := I1.grow k0
   have offθ : ∀ b, s0.heap.get? b = none -> b ∉ θ1 := fun b e q => by obtain ⟨o, h⟩ := I1.live b q; rw [e] at h; exact no_some h
   have R0 := R.ext e1
   have hns0 : s₀.heap.Ns C _ := ⟨oC, esC, epC, gC, hrC⟩
   have R₀ : CompRep prog w G1 θ1 s₀.heap (compEnvC sc cl C env) ⟨sc, dropL sc fm.loc⟩ := CompRep.enter hok R0 h1 h2 hns0 k0 f0C (offθ C f0C) (I1.gnone' f0C)
   have A₀ : Acc G1 θ1 s₀.heap (compEnvC sc cl C env) D [] := by
     refine ⟨⟨#[], [], ⟨0, gD⟩, .nil⟩, offθ D f0D, I1.gnone' f0D, fun q => ?_⟩
     rcases WF_mem q with q | ⟨y, hy⟩
     · exact hCD q.symm
     · obtain ⟨_, o, ho⟩ := R0.ownC y D (mem_of_lookup (h1 y D hy))
       rw [f0D] at ho; exact no_some ho
   have hup : ∀ b o, s₀.heap.get? b = some o -> h₁.get? b = some o := fun b o e => by
     by_cases b1 : b = C
     · subst b1; rw [gC] at e; (refine inj1 e ?_; clear e; rintro rfl); exact hoC
     · by_cases b2 : b = D
       · subst b2; rw [gD] at e; (refine inj1 e ?_; clear e; rintro rfl); exact hoD
       · rw [gO b b1 b2] at e; exact up b o (hkp b o e)
   have Fd' : Feed prog w A tgt Ia G1 h₁ s₀.heap xs fp wr Pp Md St := Fd.move up fun b o e1 e2 => by
     rw [gO b (by rintro rfl; rw [hfC] at e2; exact no_some e2) (by rintro rfl; rw [hfD] at e2; exact no_some e2)]; exact e1
   have key := loop G1 θ1 s₀ { s0 with heap := h₁, toks := t2 + ([] : List (Str × Value)).length } C D Ia fp wr Pp Md St I₀ R₀ A₀ ⟨h₁, _, rfl⟩ hup Fd'
   have key' := codeAny_mono (R' := fun q s' => ∃ f D', q = .ok f /\ Value.ref D = .ref D' /\ CDone prog w base G θ s μ' C D' ys s') key (fun q s' z => by
     obtain ⟨f, rfl, G2, θ2, e2, I2, R2, A2⟩ := z
     obtain ⟨⟨vs, as, ⟨k, ho⟩, ra⟩, a1, a2, a3⟩ := A2
     obtain ⟨m2, hn2, _⟩ := R2.rep.loc
     have fs : ∀ b, s0.heap.get? b = none -> s.heap.get? b = none := fun b e => by
       cases q : s.heap.get? b with
       | none => rfl
       | some o => obtain ⟨o', h⟩ := e1.live b o q; rw [e] at h; exact no_some h
     have e0 : Ext [] G1 θ1 s0 G1 θ1 s₀ := Ext.grow (t := s0.toks) k0
     exact ⟨f, D, rfl, rfl, G2, θ2, m2, ((e1.trans e0).weaken (fun _ q => nomatch q)).trans e2, I2, hn2, R2.rep.ownL, ⟨vs, as, k, ho, ra, a1, a2⟩, fs C f0C, fs D f0D, hCD⟩)
   exact codeAny_compStart rfl rfl key' (Fd'.self 0 _ _ _ Fd'.st key')
theorem lcEnd {l : Bool × List PyData} {t : Expr} {o : Option (List PyData × Sto)} {V : V} (h : (if apart t l then none else o.bind listEnd) = some (V, μ')) : (l.1 = true -> isPairT t = true) /\ ∃ ys, o = some (ys, μ') /\ V = .d (.list ys) /\ smallLen ys = true :=
 if_no h fun hk h => bind1 h fun y hy h => if_some h fun hz h => inj2 h fun e e' => ⟨fun e => apart_no hk e, y.1, hy.trans (congrArg some (Prod.ext rfl e')), e.symm, hz⟩
theorem listComp_cases {elt : Expr} {gens : List Comprehension} {V : V} (h : listCompM P r fm elt gens sc μ = some (V, μ')) : compOk sc fm = true /\ ∃ tgt it ifs rest ow xs ys μ1, gens = ⟨tgt, it, ifs, 0⟩ :: rest /\ V = .d (.list ys) /\ smallLen ys = true /\
   iterM P r fm it μ = some ((ow, xs), μ1) /\ (ow = true -> isPairT tgt = true) /\
   ((rest = [] /\ compM r ⟨sc, dropL sc fm.loc⟩ elt tgt ifs xs μ1 = some (ys, μ')) \/
     ∃ tgt2 it2 ifs2, rest = [⟨tgt2, it2, ifs2, 0⟩] /\ isSetE it2 = false /\ compM2 P r ⟨sc, dropL sc fm.loc⟩ elt tgt ifs tgt2 it2 ifs2 xs μ1 = some (ys, μ')) := by
 refine if_no h fun hok h => ⟨by cases hc : compOk sc fm with | true => rfl | false => exact absurd (by rw [hc]; rfl) hok, ?_⟩
 cases gens with
 | nil => exact no_some h
 | cons g gs =>
   obtain ⟨tgt, it, ifs, as⟩ := g
   refine if_some h fun ha h => ?_
   obtain rfl : as = 0 := ha
   cases gs with
   | nil =>
     refine bind3' h fun ow xs μ1 h1 h => ?_
     obtain ⟨hw, ys, h3, e, hz⟩ := lcEnd h
     exact ⟨tgt, it, ifs, [], ow, xs, ys, μ1, rfl, e, hz, h1, hw, .inl ⟨rfl, h3⟩⟩
   | cons g2 gs =>
     obtain ⟨tgt2, it2, ifs2, as2⟩ := g2
     cases gs with
     | cons _ _ => exact no_some h
     | nil =>
       refine if_no h fun hk h => if_some h fun ha h => bind3' h fun ow xs μ1 h1 h => ?_
       obtain rfl : as2 = 0 := ha
       obtain ⟨hw, ys, h3, e, hz⟩ := lcEnd h
       exact ⟨tgt, it, ifs, _, ow, xs, ys, μ1, rfl, e, hz, h1, hw, .inr ⟨tgt2, it2, ifs2, rfl, Bool.eq_false_iff.mpr hk, h3⟩⟩
theorem s_compRun {elt : Expr} {gens : List Comprehension} {pos : Pos} {V : V} (B : BaseOk P prog w base) (hs : SEv prog w base r n) (ht : STr prog w base r n) (hst : NoStar r) (hroom : Room A n) (I : Inv prog w base G θ s μ) (R : EnvRep prog w G θ s.heap env fm)
   (h : listCompM P r fm elt gens sc μ = some (V, μ')) : ∃ tgt it ifs rest ys cl, gens = ⟨tgt, it, ifs, 0⟩ :: rest /\ V = .d (.list ys) /\ (∀ x, foldedSetIterable it env x = pure x) /\ closureFor sc env = pure cl /\ sc.kind = .function /\
     (∀ x ∈ sc.names, x.2 = .local -> sc.names.lookup x.1 = some .local) /\
     wpAny (model prog w) A (eval it env) (fun x s₁ => wpAny (model prog w) A (pyIter x) (fun itv s₂ => wpAny (model prog w) A (newList []) (fun acc s₃ =>
       wpAny (model prog w) A (newFunctionEnv sc env.globals cl [] env.qual none .none (some env)) (fun cenv s₄ =>
         codeAny (model prog w) A (.compStart (.ListComp elt gens sc pos) 0 itv acc { cenv with scope := relabel sc env }) (fun q s' => ∃ f D, q = .ok f /\ acc = .ref D /\ CDone prog w base G θ s μ' cenv.locals D ys s') s₄) no s₃) no s₂) no s₁) no s := by
 obtain ⟨hok, tgt, it, ifs, rest, ow, xs, ys, μ1, rfl, rfl, hz, h1, hp, h2⟩ := listComp_cases h
 obtain ⟨hkind, hall⟩ := compOk_mem hok
 obtain ⟨hf, hit⟩ := s_iter (tgt := tgt) B hs hst hroom I R hp h1
 obtain ⟨cl, c1, c2, c3⟩ := closure_gives (sc := sc) (env := env) (fun p hp hk => by
   obtain ⟨_, _, q⟩ := hall p hp
   rcases q with q | q | ⟨_, ⟨V, hV⟩, q⟩
   · rw [hk] at q; cases q
   · rw [hk] at q; cases q
   · obtain ⟨c, v, g1, _⟩ := R.cel p.1 V q hV
     exact ⟨c, g1⟩)
 have hz' : (([] : List PyData) ++ ys).length <= 100000 := smallLen_of hz
 refine ⟨tgt, it, ifs, rest, ys, cl, rfl, rfl, hf, c1, hkind, fun x hx hl => by rw [(hall x hx).1, hl], ?_⟩
 refine s_compBlock B hs hst hroom hok I R c2 c3 hit fun G1 θ1 s₀ s1 C D Ia fp wr Pp Md St I1 R1 A1 hsame hkp Fd => ?_
 rcases h2 with ⟨rfl, h2⟩ | ⟨tgt2, it2, ifs2, rfl, hset, h2⟩
 · exact s_compLast (gens := [⟨tgt, it, ifs, 0⟩]) (d := 0) rfl rfl hs ht hroom I1 R1 A1 hsame hkp Fd h2 hz'
 · exact s_compFirst B hs ht hst hroom I1 R1 A1 hsame hkp Fd h2 hz' fun x => noSet hset x
end
end Mine
end
section
namespace Mine
open PySem PySem.W PyProof.Rows PySem.Spec
section
variable {P : Par} {prog : Program} {w : World} {base G G' : Heap} {θ θ' : List Addr} {s s' : Shared} {μ μ' : Sto} {A : Around} {n : Nat} {r : Rec} {env : Env} {fm : Fm} {sc : Scope} {ρ ρ' : Loc} {c : Bool} {W : List Addr}
theorem CDone.known {C D : Addr} {ys : List PyData} (x : CDone prog w base G θ s μ' C D ys s') : ∃ G' θ' m, Ext [C, D] G θ s G' θ' s' /\ Inv prog w base G' θ' s' μ' /\ s'.heap.Ns C m /\ C ∉ θ' /\ G'.get? C = none /\ RV prog w G' θ' (.ref D) (.d (.list ys)) /\
   s.heap.get? C = none /\ s.heap.get? D = none /\ C ≠ D := by
 obtain ⟨G1, θ1, m, e, I, hn, ⟨c1, c2⟩, ⟨vs, as, k, ho, ra, d1, d2⟩, f1, f2, f3⟩ := x
 refine ⟨plus G1 D (seqObj "list" vs k), θ1, m, ?_, I.know (fun _ _ => ⟨rfl, rfl⟩) ho d1 d2, hn, c1, (plus_other f3).trans c2, .d (.list (plus_self rfl) rfl rfl (ReadsAll.keeps (sub_plus d2) ra)), f1, f2, f3⟩
 exact ⟨e.g.trans (sub_plus d2), e.th, e.same, e.keep, e.live, fun b ob o hb hbθ hg => by
   have hbD : b ≠ D := by rintro rfl; rw [f2] at hb; exact no_some hb
   rw [plus_other hbD] at hg
   exact e.newG b ob o hb hbθ hg, e.newT⟩
theorem s_listComp {elt : Expr} {gens : List Comprehension} {pos : Pos} {V : V} (B : BaseOk P prog w base) (hs : SEv prog w base r n) (ht : STr prog w base r n) (hst : NoStar r) (hroom : Room A n) (I : Inv prog w base G θ s μ) (R : EnvRep prog w G θ s.heap env fm)
   (h : listCompM P r fm elt gens sc μ = some (V, μ')) : wpAny (model prog w) A (eval (.ListComp elt gens sc pos) env) (Post prog w base G θ s μ' V) no s := by
 obtain ⟨tgt, it, ifs, rest, ys, cl, rfl, rfl, hf, hcl, hk, hn, run⟩ := s_compRun (pos := pos) B hs ht hst hroom I R h
 show wpAny _ _ (comprehension (.ListComp elt (⟨tgt, it, ifs, 0⟩ :: rest) sc pos) sc env (firstIterPos (⟨tgt, it, ifs, 0⟩ :: rest) pos) (newList []) false (eval it env)) _ _ _
 refine wpAny_comprehension_free (use := none) rfl hf hcl hk hn (wpAny_mono run (fun x s1 z1 => wpAny_mono z1 (fun itv s2 z2 => wpAny_mono z2 (fun acc s3 z3 => wpAny_mono z3 (fun cenv s4 z4 => ?_) fun _ _ q => q) fun _ _ q => q) fun _ _ q => q) fun _ _ q => q)
 refine codeAny_mono z4 fun q s5 z5 => ?_
 obtain ⟨f, D, rfl, rfl, z6⟩ := z5
 obtain ⟨G1, θ1, m, e, I1, hns, c1, c2, rv, f1, f2, f3⟩ := z6.known
 refine ⟨m, hns, fun h' hsb => ?_⟩
 have hkW : ∀ b o, b ∉ [cenv.locals] -> s5.heap.get? b = some o -> h'.get? b = some o := fun b o hb e => (hsb.2 b (by simpa using hb)).trans e
 refine ⟨G1, θ1, e.last (t := s5.toks) hkW (by simpa using f1) fun b hb => ?_, I1.other (t := s5.toks) hkW (by simpa using c1) (by simpa using c2), rv⟩
 simp only [List.mem_cons, List.not_mem_nil, or_false] at hb
 rcases hb with rfl | rfl
 · exact .inr f1
 · exact .inr f2
theorem swaps_pure {value : Expr} {x : Str} {p : Pos} {line : Nat} : ∃ b, swapsWith value (some (.Name x p)) line env = pure b /\ (b = true -> ∃ elt gens sc pos, value = .ListComp elt gens sc pos \/ (∀ elt gens sc pos, value ≠ .ListComp elt gens sc pos)) := by
 cases value <;> first
   | exact ⟨false, rfl, fun h => nomatch h⟩
   | exact ⟨_, rfl, fun _ => ⟨_, _, _, _, .inl rfl⟩⟩
   | exact ⟨_, rfl, fun _ => ⟨.Constant .none 0 ⟨0, 0, 0, 0⟩, [], default, ⟨0, 0, 0, 0⟩, .inr (fun _ _ _ _ e => nomatch e)⟩⟩
end
end Mine
end
section
namespace Mine
open PySem PySem.W PyProof.Rows PySem.Spec
open scoped Classical
section
variable {P : Par} {prog : Program} {w : World} {base G G' : Heap} {θ θ' : List Addr} {s s' : Shared} {μ μ' : Sto} {A : Around} {n : Nat} {r : Rec} {env : Env} {fm : Fm} {sc : Scope} {ρ ρ' : Loc} {c : Bool} {W : List Addr}
theorem flatD_of {v : Value} {x : PyData} {as : List Addr} (h : isFlatD x = true) (r : Reads G v x as) : PyProof.V.Flat v x := by
 cases x with
 | bool b => exact of_bool r fun e => e ▸ fun _ => .bool _
 | int i => exact of_int r fun t e => e ▸ fun _ => .int _ _
 | _ => exact no_ft h
theorem putD_mem (k v : PyData) (l : List (PyData × PyData)) : ∃ p ∈ PyProof.V.putD k v l, ∃ q, (q = k \/ ∃ u, (q, u) ∈ l) /\ p.1 = q := by
 unfold PyProof.V.putD
 split
 · rename_i h
   obtain ⟨p, hp, hs⟩ := List.any_eq_true.mp h
   exact ⟨(p.1, v), List.mem_map.mpr ⟨p, hp, by simp [hs]⟩, p.1, .inr ⟨p.2, hp⟩, rfl⟩
 · exact ⟨(k, v), by simp, k, .inl rfl, rfl⟩
theorem str_not_tup {k v : PyData} {l : List (PyData × PyData)} (hk : isStrD k = true) (hl : strKeys l = true) : ¬ tupKeys (PyProof.V.putD k v l) = true := by
 intro h
 obtain ⟨p, hp, q, hq, e⟩ := putD_mem k v l
 have h1 : isTupD p.1 = true := List.all_eq_true.mp h p hp
 have h2 : isStrD q = true := by
   rcases hq with rfl | ⟨u, hu⟩
   · exact hk
   · exact List.all_eq_true.mp hl _ hu
 rw [e] at h1
 obtain ⟨_, rfl⟩ := is_str h2
 exact no_ft h1
theorem tup_not_str {k v : PyData} {l : List (PyData × PyData)} (hk : isTupD k = true) (hl : tupKeys l = true) : ¬ strKeys (PyProof.V.putD k v l) = true := by
 intro h
 obtain ⟨p, hp, q, hq, e⟩ := putD_mem k v l
 have h1 : isStrD p.1 = true := List.all_eq_true.mp h p hp
 have h2 : isTupD q = true := by
   rcases hq with rfl | ⟨u, hu⟩
   · exact hk
   · exact List.all_eq_true.mp hl _ hu
 rw [e] at h1
 obtain ⟨_, rfl⟩ := is_tup h2
 exact no_ft h1
theorem readsAll_set {h : Heap} {vs : List Value} {xs : List PyData} {as : List Addr} (r : ReadsAll h vs xs as) (i : Nat) {v : Value} {x : PyData} {bs : List Addr} (q : Reads h v x bs) : ∃ cs, ReadsAll h (vs.set i v) (xs.set i x) cs :=
 ra_ind (C := fun vs xs => ∀ i, ∃ cs, ReadsAll h (vs.set i v) (xs.set i x) cs) (fun _ => ⟨_, .nil⟩) (fun _ _ _ _ _ _ r1 r2 ih i => by
   cases i with
   | zero => exact ⟨_, .cons q r2⟩
   | succ i => exact (ih i).elim fun _ q => ⟨_, .cons r1 q⟩) r i
theorem setItem_exact {l : Addr} {items : Array Value} {m : Nat} {k : Int} {t : Tok} {v : Value} {Q : Unit -> Shared -> Prop} (ho : s.heap.get? l = some (seqObj "list" items m)) (h0 : 0 <= k) (hfit : k < 2 ^ 63) (hn : k < items.size)
   (hQ : ∀ h' m', h'.get? l = some (seqObj "list" (items.setIfInBounds k.toNat v) m') -> Heap.SameBut l s.heap h' -> Q () { s with heap := h' }) :
   wpAny (model prog w) A (setItem (.ref l) (.int k t) v) Q no s := by
 have hT : s.TypeIs (.ref l) "list" := ⟨_, ho, rfl⟩
 unfold setItem
 try with_reducible refine wpAny_holding ?_
 first | refine wpAny_bind (wpAny_pure ?_) | skip
 refine wpAny_bind (wpAny_sequenceKey hT (by decide) ?_)
 refine wpAny_bind (wpAny_callSpecial?_slot (name := Str.ofString "__setitem__") hT PySem.slot_list_setitem
   (wpAny_call_entry PySem.slot_list_setitem hT PySem.entry_list_setitem ?_ (PySem.args_list_setitem _ _ _)))
 show wpAny _ _ (Builtin.List.listSubscript? (.int k t) >>= _) _ _ s
 refine wpAny_bind (wpAny_listSubscript_int (fitsIndex_of h0 hfit) ?_)
 clear hfit
 obtain ⟨j, rfl⟩ := Int.eq_ofNat_of_zero_le h0
 have hj : j < items.size := by omega
 have hx' : items[j]? = some items[j] := Array.getElem?_eq_getElem hj
 show wpAny _ _ ((seqItemAt l j >>= fun r => pure (r.map (j, ·))) >>= _) _ _ s
 refine wpAny_bind (wpAny_bind (wpAny_seqItemAt ho rfl (wpAny_pure ?_)))
 rw [hx']
 show wpAny _ _ (setSeqItemAt l j v >>= _) _ _ s
 have hfin := get?_update_seq ho (·.setIfInBounds j v)
 refine wpAny_bind (wpAny_setSeqItemAt ho rfl ?_)
 first
   | exact wpAny_bind (wpAny_pure (wpAny_pure ⟨.none, rfl, wpAny_pure (hQ _ _ hfin (Heap.SameBut.update ..))⟩))
   | exact wpAny_pure ⟨.none, rfl, wpAny_pure (hQ _ _ hfin (Heap.SameBut.update ..))⟩
theorem s_setItem {o k v : Value} {O K X : V} (hu : A.units + 200 < cLine) (I : Inv prog w base G θ s μ) (ro : RV prog w G θ o O) (rk : RV prog w G θ k K) (rv : RV prog w G θ v X) (h : storeM μ O K X = some μ') :
   wpAny (model prog w) A (setItem o k v) (fun _ s' => Ext [] G θ s G θ s' /\ Inv prog w base G θ s' μ') no s := by
 refine bind1 h fun i hi h => bind1 h fun kd hk h => bind1 h fun vd hv h => bind1 h fun mo hm h => of_obj (of_objV hi ▸ ro) fun a ea e => ?_
 subst ea
 obtain ⟨as, q1⟩ := (of_dat hk ▸ rk : RV prog w G θ k (.d kd)).data
 obtain ⟨bs, q2⟩ := (of_dat hv ▸ rv : RV prog w G θ v (.d vd)).data
 have hmem := List.mem_of_getElem? e
 clear ro rk rv hi hk hv
 cases mo with
   | list l =>
     refine bind1 h fun m hmi h => if_some h fun hk h => inj1 h fun e' => ?_
     subst e'
     obtain rfl := of_intD hmi
     simp only [Bool.and_eq_true, decide_eq_true_eq] at hk
     refine of_int q1 fun t ek => ?_
     subst ek
     have hg := (I.rep i a _ e hm).1
     obtain ⟨vs, mm, cs, ho, ra⟩ := mlist_exact I e hm
     have ll := ReadsAll.len ra
     simp only [Array.length_toList] at ll
     obtain ⟨ds, rs⟩ := readsAll_set ra m.toNat q2
     refine setItem_exact ho hk.1.1 (by omega) (by omega) fun h' m' ho' hsb => ?_
     exact ⟨Ext.set (t := s.toks) hmem hsb ⟨_, ho'⟩, I.set (mo := .list (l.set m.toNat vd)) e hg hsb ⟨_, ho'⟩ ⟨hg, _, _, _, ds, ho', rfl, rfl, by simpa using rs, rfl, rfl⟩⟩
   | dict l =>
     refine if_some h fun hk h => inj1 h fun e' => ?_
     subst e'
     simp only [Bool.and_eq_true, decide_eq_true_eq] at hk
     obtain ⟨⟨hask, hfl⟩, hlen⟩ := hk
     have hflat := flatD_of hfl q2
     obtain ⟨hg, o, ho, Do, lo⟩ := I.rep i a _ e hm
     rcases key_cases hask q1 with ⟨x, t, rfl, rfl, hs⟩ | ⟨kt, ad, rfl, rfl, hka, hs⟩
     · obtain ⟨kvs, hd, hf⟩ := Do.1 hs
       have hl := hf.length
       refine wpAny_setItem_pairs (hsz := by rw [sizeLine_is]; omega) (strKind_is prog w x t) (Heap.dictOf_iff.mpr ⟨o, ho, hd⟩) fun h' hm' hsb => ?_
       obtain ⟨o', ho', hd'⟩ := Heap.dictOf_iff.mp hm'
       have hex : o'.ExactDict := let ⟨_, _, z, _⟩ := hd'; z
       exact ⟨Ext.set hmem hsb ⟨o', ho'⟩, (I.set (mo := .dict (PyProof.V.putD _ vd l)) e hg hsb ⟨o', ho'⟩ ⟨hg, o', ho', ⟨fun _ => ⟨_, hd', hf.stored PyProof.V.same_str x hflat⟩, fun hc => absurd hc (str_not_tup rfl hs), hex⟩, lo⟩).toks _⟩
     · obtain ⟨es, ep, xs, x1, x2, x3, x4, x5, x6⟩ := Do.2 hs
       have hl := x6.length
       have hl2 : (kvsOf xs).length = xs.length := by simp [kvsOf]
       refine wpAny_setItem_heap (knd := tupK prog w) (hsz := by rw [sizeLine_is]; omega) (by show A.units + 1 + 20 < cLine; omega) (hka.mono I.sub) ⟨o, es, ep, ho, x1, x2, x3, fun x hx => (x4 x hx).mono I.sub, x5⟩ fun h' hm' hsb => ?_
       obtain ⟨o', es', ep', ho', y1, y2, y3, y4, y5⟩ := hm'
       refine ⟨Ext.set hmem hsb ⟨o', ho'⟩, (I.set (mo := .dict (PyProof.V.putD _ vd l)) e hg hsb ⟨o', ho'⟩ ⟨hg, o', ho', ⟨fun hc => absurd hc (tup_not_str ?_ hs), fun _ => ⟨es', ep', _, y1, y2, y3, fun x hx => ?_, y5, ?_⟩, y1⟩, lo⟩).toks _⟩
       · exact (Bool.and_eq_true_iff.mp kt.2).1
       · rcases mem_storedH hx with ⟨y, hy, e1, e2⟩ | ⟨e1, e2⟩
         · rw [e1, e2]; exact x4 y hy
         · rw [e1, e2]; exact hka
       · rw [kvsOf_storedH]; exact x6.stored encK kt hflat
   | _ => exact no_some h
end
end Mine
end
section
namespace Mine
open PySem PySem.W PyProof.Rows PySem.Spec
section
variable {P : Par} {prog : Program} {w : World} {base G G' : Heap} {θ θ' : List Addr} {s s' : Shared} {μ μ' : Sto} {A : Around} {n : Nat} {r : Rec} {env : Env} {fm : Fm} {sc : Scope} {ρ ρ' : Loc} {c : Bool} {W : List Addr}
theorem exec_Assign' (targets : List Expr) (value : Expr) (pos : Pos) : exec (.Assign targets value pos) env = (do
   standAt pos
   if <- swapsWithSole targets value pos.line env then do
     evalThenUse value env fun v => assignAll v ((assignEach targets env).map (·.2))
     pure .next
   else do
     let v <- eval value env
     assignStores env v (<- swappedStores targets value env) ((assignEach targets env).map (·.2))) := rfl
theorem PostX.of {fl : Flw} {f : Flow} {s1 s2 : Shared} {G1 : Heap} {θ1 : List Addr} (e : Ext (WF env) G θ s G1 θ1 s1) (p : PostX prog w base G1 θ1 s1 μ' env sc ρ' fl f s2) : PostX prog w base G θ s μ' env sc ρ' fl f s2 :=
 let ⟨G2, θ2, e2, I2, R2, h⟩ := p; ⟨G2, θ2, e.trans e2, I2, R2, h⟩
theorem Ext.wf (e : Ext [] G θ s G' θ' s') : Ext (WF env) G θ s G' θ' s' := e.weaken fun _ q => nomatch q
theorem s_asgName {x : Str} {e : Expr} {p pos : Pos} {X : V} (hs : SEv prog w base r n) (hroom : Room A n) (I : Inv prog w base G θ s μ) (R : FrameRep prog w G θ s.heap env ⟨sc, ρ⟩) (hnl : ∀ a b c d, e ≠ .ListComp a b c d) (hsd : isSDC e = false)
   (h1 : r.ev ⟨sc, ρ⟩ e μ = some (X, μ')) (hx : okN sc true x = true) : wpAny (model prog w) A (exec (.Assign [.Name x p] e pos) env) (PostX prog w base G θ s μ' env sc (setL x X ρ) .next) no s := by
 rw [exec_Assign']
 have hsw : swapsWithSole [.Name x p] e pos.line env = pure false := by
   cases e <;> first | rfl | exact absurd rfl (hnl _ _ _ _) | exact no_ft hsd.symm
 rw [hsw]
 refine wpAny_bind (wpAny_standAt (wpAny_bind (wpAny_pure ?_)))
 simp only [Bool.false_eq_true, if_false]
 refine wpAny_bind (wpAny_mono (hs A G θ s μ env ⟨sc, ρ⟩ e X μ' hroom I R.rep h1) (fun v s1 p1 => ?_) fun _ _ q => q)
 refine p1.el fun G1 θ1 e1 I1 r1 => ?_
 have hst : swappedStores [.Name x p] e env = pure none := rfl
 rw [hst]
 refine wpAny_bind (wpAny_pure ?_)
 show wpAny _ _ (assign (.Name x p) env v >>= fun _ => pure Flow.next) _ _ _
 exact wpAny_bind (s_assignN I1 (R.ext e1) hx r1 fun s2 e2 I2 R2 => wpAny_pure ⟨G1, θ1, e1.wf.trans e2, I2, R2, rfl⟩)
theorem s_asgComp {x : Str} {elt : Expr} {gens : List Comprehension} {csc : Scope} {p pos cpos : Pos} {X : V} (B : BaseOk P prog w base) (hs : SEv prog w base r n) (ht : STr prog w base r n) (hst : NoStar r) (hroom : Room A n) (I : Inv prog w base G θ s μ)
   (R : FrameRep prog w G θ s.heap env ⟨sc, ρ⟩) (h1 : listCompM P r ⟨sc, ρ⟩ elt gens csc μ = some (X, μ')) (hx : okN sc true x = true) :
   wpAny (model prog w) A (exec (.Assign [.Name x p] (.ListComp elt gens csc cpos) pos) env) (PostX prog w base G θ s μ' env sc (setL x X ρ) .next) no s := by
 rw [exec_Assign']
 obtain ⟨b, hb, _⟩ := swaps_pure (env := env) (value := .ListComp elt gens csc cpos) (x := x) (p := p) (line := pos.line)
 have hsw : swapsWithSole [.Name x p] (.ListComp elt gens csc cpos) pos.line env = pure b := hb
 rw [hsw]
 refine wpAny_bind (wpAny_standAt (wpAny_bind (wpAny_pure ?_)))
 cases b with
 | false =>
   simp only [Bool.false_eq_true, if_false]
   refine wpAny_bind (wpAny_mono (s_listComp (pos := cpos) B hs ht hst hroom I R.rep h1) (fun v s1 p1 => ?_) fun _ _ q => q)
   refine p1.el fun G1 θ1 e1 I1 r1 => ?_
   refine wpAny_bind (wpAny_pure ?_)
   show wpAny _ _ (assign (.Name x p) env v >>= fun _ => pure Flow.next) _ _ _
   exact wpAny_bind (s_assignN I1 (R.ext e1) hx r1 fun s2 e2 I2 R2 => wpAny_pure ⟨G1, θ1, e1.wf.trans e2, I2, R2, rfl⟩)
 | true =>
   simp only [if_true]
   obtain ⟨tgt, it, ifs, rest, ys, cl, rfl, rfl, hf, hcl, hk, hn, run⟩ := s_compRun (pos := cpos) B hs ht hst hroom I R.rep h1
   refine wpAny_bind ?_
   show wpAny _ _ (do let _ <- comprehension (.ListComp elt (⟨tgt, it, ifs, 0⟩ :: rest) csc cpos) csc env (firstIterPos (⟨tgt, it, ifs, 0⟩ :: rest) cpos) (newList []) false (eval it env) (some (assign (.Name x p) env))) _ _ _
   refine wpAny_bind (wpAny_mono (wpAny_comprehension_free (use := some (assign (.Name x p) env)) (Q := fun _ s' => PostX prog w base G θ s μ' env sc (setL x (.d (.list ys)) ρ) .next .next s') (E := no) rfl hf hcl hk hn
     (wpAny_mono run (fun xv s1 z1 => wpAny_mono z1 (fun itv s2 z2 => wpAny_mono z2 (fun acc s3 z3 => wpAny_mono z3 (fun cenv s4 z4 => ?_) fun _ _ q => q) fun _ _ q => q) fun _ _ q => q) fun _ _ q => q))
     (fun _ s' q => wpAny_pure (wpAny_pure q)) fun _ _ q => q)
   refine codeAny_mono z4 fun q s5 z5 => ?_
   obtain ⟨f, D, rfl, rfl, z6⟩ := z5
   obtain ⟨G1, θ1, m, e, I1, hns, c1, c2, rv, f1, f2, f3⟩ := z6.known
   have own := R.rep.own
   have hCW : cenv.locals ∉ WF env := fun q => by obtain ⟨_, o, ho⟩ := own _ q; rw [f1] at ho; exact no_some ho
   have hDW : D ∉ WF env := fun q => by obtain ⟨_, o, ho⟩ := own _ q; rw [f2] at ho; exact no_some ho
   have hdis : ∀ b ∈ WF env, b ∉ [cenv.locals, D] := fun b hb q => by
     simp only [List.mem_cons, List.not_mem_nil, or_false] at q
     rcases q with rfl | rfl
     · exact hCW hb
     · exact hDW hb
   have R1 := R.extW e (hdis _ (WF_locals env)) (fun y c hc => hdis _ (WF_cell hc))
   show wpAny _ _ (assign (.Name x p) env (.ref D)) _ _ _
   refine s_assignN I1 R1 hx rv fun s6 e6 I6 R6 => ?_
   have hns6 : s6.heap.Ns cenv.locals m := hns.at' fun o ho => e6.keep _ c1 hCW o ho
   refine ⟨m, hns6, fun h' hsb => ?_⟩
   have hkW : ∀ b o, b ∉ [cenv.locals] -> s6.heap.get? b = some o -> h'.get? b = some o := fun b o hb ho => (hsb.2 b (by simpa using hb)).trans ho
   have e' := ((e.weaken (W' := WF env ++ [cenv.locals, D]) fun b hb => List.mem_append_right _ hb).trans (e6.weaken fun b hb => List.mem_append_left _ hb)).last (t := s6.toks) (W' := WF env) hkW (by simpa using f1) (fun b hb => by
     rcases List.mem_append.mp hb with q | q
     · exact .inl q
     · simp only [List.mem_cons, List.not_mem_nil, or_false] at q
       rcases q with rfl | rfl
       · exact .inr f1
       · exact .inr f2)
   refine ⟨G1, θ1, e', I6.other (t := s6.toks) hkW (by simpa using c1) (by simpa using c2), ?_, rfl⟩
   exact (fnFrame prog w base env sc).kept R6 fun b hb o ho => hkW b o (fun q => hCW (by rw [<- List.mem_singleton.mp q]; exact hb)) ho
theorem target_names {ts : List Expr} : ∀ {ns : List Str}, targetNames ts = some ns -> ∃ ps : List Pos, ts = (ns.zip ps).map (fun q => Expr.Name q.1 q.2) /\ ns.length = ps.length := by
 induction ts with
 | nil => exact fun h => inj1 h fun e => ⟨[], e ▸ rfl, e ▸ rfl⟩
 | cons t r ih => exact fun h => bind1 h fun n hn h => bind1 h fun l hl h => inj1 h fun e => (of_nameE hn).elim fun p ep => (ih hl).elim fun ps q =>
     ⟨p :: ps, e ▸ (congrArg (· :: r) ep).trans (congrArg (_ :: ·) q.1), e ▸ congrArg (· + 1) q.2⟩
theorem FrameRep.congr {ρ₂ : Loc} (R : FrameRep prog w G θ s.heap env ⟨sc, ρ⟩) (h : ∀ y, ρ₂.lookup y = ρ.lookup y) : FrameRep prog w G θ s.heap env ⟨sc, ρ₂⟩ :=
 ⟨R.rep.drop fun y V q => by rw [<- h]; exact q, R.sc, R.bound, R.cells, R.apart, R.cL⟩
noncomputable def bindVs : List (Str × V) -> Loc -> Loc
 | [], ρ => ρ
 | (n, v) :: r, ρ => bindVs r (setL n v ρ)
theorem lookup_bindVs (y : Str) (l : List (Str × V)) : ∀ ρ : Loc, (bindVs l ρ).lookup y = (l.reverse.lookup y).or (ρ.lookup y) := by
 induction l with
 | nil => exact fun _ => rfl
 | cons q r ih =>
   intro ρ
   obtain ⟨n, v⟩ := q
   show (bindVs r (setL n v ρ)).lookup y = _
   rw [ih, lookup_setL, List.reverse_cons, List.lookup_append]
   cases r.reverse.lookup y with
   | some z => rfl
   | none =>
     rw [List.lookup_cons]
     by_cases h : y = n
     · rw [if_pos h, beq_iff_eq.mpr h]; rfl
     · rw [if_neg h, beq_eq_false_iff_ne.mpr h]; rfl
theorem lookup_rev {l : List (Str × V)} (hn : (l.map (·.1)).Nodup) (y : Str) : l.reverse.lookup y = l.lookup y := by
 induction l with
 | nil => rfl
 | cons p r ih =>
   obtain ⟨k, v⟩ := p
   rw [List.map_cons, List.nodup_cons] at hn
   rw [List.reverse_cons, List.lookup_append, ih hn.2, List.lookup_cons, List.lookup_cons]
   by_cases h : y = k
   · subst h
     have : r.lookup y = none := by
       cases q : r.lookup y with
       | none => rfl
       | some z => exact absurd (List.mem_map.mpr ⟨_, mem_of_lookup q, rfl⟩) hn.1
     rw [this]; simp
   · rw [beq_eq_false_iff_ne.mpr h]
     simp
theorem bindAll_is {ts : List Expr} : ∀ {Vs : List V} {ρ ρ' : Loc} {ns : List Str}, targetNames ts = some ns -> bindAll sc ts Vs ρ = some ρ' -> ρ' = bindVs (ns.zip Vs) ρ /\ ns.length = Vs.length /\ ∀ x ∈ ns, okN sc true x = true := by
 induction ts with
 | nil => exact fun h1 h2 => inj1 h1 fun e => if_some h2 fun hv h2 => inj1 h2 fun e2 => by rw [<- e, <- e2, List.isEmpty_iff.mp hv]; exact ⟨rfl, rfl, fun _ h => nomatch h⟩
 | cons t ts ih =>
   intro Vs ρ ρ' ns h1 h2
   cases Vs with
   | nil => exact no_some h2
   | cons v Vs =>
     refine bind1 h1 fun n hn h1 => bind1 h1 fun l hl h1 => inj1 h1 fun e => bind1 h2 fun n' hn' h2 => if_some h2 fun hk h2 => ?_
     obtain rfl := Option.some.inj (hn.symm.trans hn')
     obtain ⟨q1, q2, q3⟩ := ih hl h2
     rw [<- e]
     exact ⟨q1, congrArg (· + 1) q2, fun x hx => (List.mem_cons.mp hx).elim (fun e => e ▸ hk) fun hx => q3 x hx⟩
theorem distinct_nodup {l : List Str} : distinct l = true -> l.Nodup := by
 induction l with
 | nil => exact fun _ => List.nodup_nil
 | cons x r ih => exact fun h => List.nodup_cons.mpr ⟨fun q => by have := not_t (and_t h).1; rw [List.contains_iff_mem.mpr q] at this; exact no_ft this.symm, ih (and_t h).2⟩
theorem s_nameRow {ns : List Str} {Q : Unit -> Shared -> Prop} {f : Str -> Value -> Sem Unit} (hf : ∀ {s : Shared} {x : Str} {v : Value} {Q : Unit -> Shared -> Prop}, wpAny (model prog w) A (storeName env x v) Q no s -> wpAny (model prog w) A (f x v) Q no s) :
   ∀ {vs : List Value} {Vs : List V} {s : Shared} {ρ : Loc}, ns.length = vs.length -> Inv prog w base G θ s μ -> FrameRep prog w G θ s.heap env ⟨sc, ρ⟩ -> RVs prog w G θ vs Vs -> (∀ x ∈ ns, okN sc true x = true) ->
     (∀ s', Ext (WF env) G θ s G θ s' -> Inv prog w base G θ s' μ -> FrameRep prog w G θ s'.heap env ⟨sc, bindVs (ns.zip Vs) ρ⟩ -> Q () s') -> wpAny (model prog w) A (assignInOrder (ns.map f) vs) Q no s := by
 induction ns with
 | nil =>
   intro vs Vs s ρ h I R rv _ hq
   obtain rfl := List.length_eq_zero_iff.mp h.symm
   cases rv
   exact wpAny_assignInOrder_none (hq s (Ext.refl _ _ _ _) I R)
 | cons x ns ih =>
   intro vs Vs s ρ h I R rv hk hq
   cases vs with
   | nil => exact nomatch h
   | cons v vs =>
     cases rv with
     | cons r1 r2 =>
       exact wpAny_assignInOrder_more (hf (s_store I R (hk x List.mem_cons_self) r1 fun s1 e1 I1 R1 =>
         ih (Nat.succ.inj h) I1 R1 r2 (fun y hy => hk y (List.mem_cons_of_mem _ hy)) fun s2 e2 I2 R2 => hq s2 (e1.trans e2) I2 R2))
end
end Mine
end
section
namespace Mine
open PySem PySem.W PyProof.Rows PySem.Spec
section
variable {P : Par} {prog : Program} {w : World} {base G G' : Heap} {θ θ' : List Addr} {s s' : Shared} {μ μ' : Sto} {A : Around} {n : Nat} {r : Rec} {env : Env} {fm : Fm} {sc : Scope} {ρ ρ' : Loc} {c : Bool} {W : List Addr}
noncomputable def namesOf (f : Str -> Pos -> Bool) (l : List Expr) : List Str := l.filterMap fun
 | .Name id pos => if f id pos = true then some id else none
 | _ => none
theorem namesOf_eq {f : Str -> Pos -> Bool} : ∀ {ns : List Str} {ps : List Pos}, ns.length = ps.length -> (namesOf f ((ns.zip ps).map fun q => Expr.Name q.1 q.2)).length <= ns.length /\
   ((namesOf f ((ns.zip ps).map fun q => Expr.Name q.1 q.2)).length = ns.length -> namesOf f ((ns.zip ps).map fun q => Expr.Name q.1 q.2) = ns)
 | [], [], _ => ⟨Nat.le_refl _, fun _ => rfl⟩
 | [], _ :: _, h => by cases h
 | _ :: _, [], h => by cases h
 | x :: ns, p :: ps, h => by
   obtain ⟨h1, h2⟩ := namesOf_eq (f := f) (ns := ns) (ps := ps) (by simpa using h)
   have e : namesOf f (((x :: ns).zip (p :: ps)).map fun q => Expr.Name q.1 q.2) = if f x p = true then x :: namesOf f ((ns.zip ps).map fun q => Expr.Name q.1 q.2) else namesOf f ((ns.zip ps).map fun q => Expr.Name q.1 q.2) := by
     show List.filterMap _ (Expr.Name x p :: _) = _
     rw [List.filterMap_cons]
     simp only
     by_cases hf : f x p = true
     · rw [if_pos hf, if_pos hf]; rfl
     · rw [if_neg hf, if_neg hf]; rfl
   rw [e]
   by_cases hf : f x p = true
   · rw [if_pos hf]
     exact ⟨by simpa using h1, fun q => by rw [h2 (by simpa using q)]⟩
   · rw [if_neg hf]
     exact ⟨by simp; omega, fun q => by simp at q; omega⟩
theorem swapped_is {ts vs : List Expr} {k k2 : Nat} {p p2 : Pos} {ns : List Str} (ht : targetNames ts = some ns) (hc : vs.all (constantsAlone 8) = false) :
   ∃ o, swappedStores [.Tuple ts k p] (.Tuple vs k2 p2) env = pure o /\ ∀ names, o = some names -> names = ns := by
 obtain ⟨ps, rfl, hl⟩ := target_names ht
 unfold swappedStores
 simp only
 split
 · exact ⟨none, rfl, fun _ h => nomatch h⟩
 · split
   · exact ⟨none, rfl, fun _ h => nomatch h⟩
   · split
     · exact ⟨none, rfl, fun _ h => nomatch h⟩
     · rename_i hlen
       split
       · exact ⟨none, rfl, fun _ h => nomatch h⟩
       · rw [hc]
         refine ⟨_, rfl, fun names h => ?_⟩
         refine inj1 h ?_; clear h; rintro rfl
         simp only [Bool.or_eq_true, bne_iff_ne, ne_eq, not_or, Decidable.not_not] at hlen
         have hz : ((ns.zip ps).map fun q => Expr.Name q.1 q.2).length = ns.length := by simp [hl]
         exact (namesOf_eq (f := fun id pos => env.kindOf id == some .local && pos.line == (Option.map (fun x => x.pos.line) ((ns.zip ps).map fun q => Expr.Name q.1 q.2).head?).getD 0) hl).2 (by rw [<- hz]; exact hlen.1)
theorem assignEach_names {ns : List Str} {ps : List Pos} : assignEach ((ns.zip ps).map fun q => Expr.Name q.1 q.2) env = (ns.zip ps).map fun q => (false, assign (.Name q.1 q.2) env) := by
 induction ns generalizing ps with
 | nil => rfl
 | cons x ns ih =>
   cases ps with
   | nil => rfl
   | cons p ps =>
     show (false, assign (.Name x p) env) :: assignEach ((ns.zip ps).map fun q => Expr.Name q.1 q.2) env = _
     rw [ih]; rfl
theorem s_rowA {Q : Unit -> Shared -> Prop} {ns : List Str} : ∀ {ps : List Pos} {vs : List Value} {Vs : List V} {s : Shared} {ρ : Loc}, ns.length = ps.length -> ns.length = vs.length -> Inv prog w base G θ s μ -> FrameRep prog w G θ s.heap env ⟨sc, ρ⟩ -> RVs prog w G θ vs Vs -> (∀ x ∈ ns, okN sc true x = true) ->
     (∀ s', Ext (WF env) G θ s G θ s' -> Inv prog w base G θ s' μ -> FrameRep prog w G θ s'.heap env ⟨sc, bindVs (ns.zip Vs) ρ⟩ -> Q () s') -> wpAny (model prog w) A (assignInOrder (((ns.zip ps).map fun q => (false, assign (.Name q.1 q.2) env)).map (·.2)) vs) Q no s := by
 induction ns with
 | nil =>
   intro ps vs Vs s ρ _ h I R rv _ hq
   obtain rfl := List.length_eq_zero_iff.mp h.symm
   cases rv
   exact wpAny_assignInOrder_none (hq s (Ext.refl _ _ _ _) I R)
 | cons x ns ih =>
   intro ps vs Vs s ρ hl h I R rv hk hq
   cases vs with
   | nil => exact nomatch h
   | cons v vs =>
     cases ps with
     | nil => exact nomatch hl
     | cons p ps =>
       cases rv with
       | cons r1 r2 =>
         exact wpAny_assignInOrder_more (wpAny_assign_Name (s_store I R (hk x List.mem_cons_self) r1 fun s1 e1 I1 R1 =>
           ih (Nat.succ.inj hl) (Nat.succ.inj h) I1 R1 r2 (fun y hy => hk y (List.mem_cons_of_mem _ hy)) fun s2 e2 I2 R2 => hq s2 (e1.trans e2) I2 R2))
theorem RVs.append {vs us : List Value} {Vs Us : List V} (h : RVs prog w G θ vs Vs) (g : RVs prog w G θ us Us) : RVs prog w G θ (vs ++ us) (Vs ++ Us) := by
 induction h with
 | nil => exact g
 | cons r _ ih => exact .cons r ih
theorem RVs.reverse {vs : List Value} {Vs : List V} (h : RVs prog w G θ vs Vs) : RVs prog w G θ vs.reverse Vs.reverse := by
 induction h with
 | nil => exact .nil
 | cons r _ ih => rw [List.reverse_cons, List.reverse_cons]; exact ih.append (.cons r .nil)
theorem s_asgTuples {ts vs : List Expr} {k k2 : Nat} {p p2 pos : Pos} {us : List V} {ns : List Str} (hs : SEv prog w base r n) (hst : NoStar r) (hroom : Room A n) (I : Inv prog w base G θ s μ) (R : FrameRep prog w G θ s.heap env ⟨sc, ρ⟩)
   (h1 : evsM (r.ev ⟨sc, ρ⟩) vs μ = some (us, μ')) (h2 : targetNames ts = some ns) (hd : distinct ns = true) (hlen : vs.length < 100) (hc : vs.all (constantsAlone 8) = false) (h3 : bindAll sc ts us ρ = some ρ') :
   wpAny (model prog w) A (exec (.Assign [.Tuple ts k p] (.Tuple vs k2 p2) pos) env) (PostX prog w base G θ s μ' env sc ρ' .next) no s := by
 obtain ⟨hρ, hnl, hok⟩ := bindAll_is h2 h3
 subst hρ
 have hnd := distinct_nodup hd
 rw [exec_Assign']
 have hsw : swapsWithSole [.Tuple ts k p] (.Tuple vs k2 p2) pos.line env = pure false := rfl
 rw [hsw]
 refine wpAny_bind (wpAny_standAt (wpAny_bind (wpAny_pure ?_)))
 simp only [Bool.false_eq_true, if_false]
 rw [arm_eval_Tuple]
 have hvl := (evs_plain hst h1).2
 refine wpAny_bind (wpAny_bind (wpAny_standAt (wpAny_bind (wpAny_mono (s_evs hs hst hroom I R.rep h1) (fun vals s1 p1 => ?_) fun _ _ x => x))))
 refine p1.el fun G1 θ1 e1 I1 r1 => ?_
 have hll := r1.length
 refine wpAny_newTuple ?_ (by rw [sizeLine_is]; omega)
 obtain ⟨o, hsto, hnames⟩ := swapped_is (env := env) (k := k) (k2 := k2) (p := p) (p2 := p2) h2 hc
 rw [hsto]
 refine wpAny_bind (wpAny_pure ?_)
 obtain ⟨ps, rfl, hlp⟩ := target_names h2
 have ho : (s1.heap.push { cls := .type "tuple", data := .seq vals.toArray }).IsTuple s1.heap.objs.size vals.toArray := ⟨_, Heap.get?_push_size _ rfl, rfl, _, rfl⟩
 have I2 := I1.push { cls := .type "tuple", data := .seq vals.toArray }
 have e2 := Ext.push I1 { cls := .type "tuple", data := .seq vals.toArray }
 have R2 := (R.ext e1).ext e2
 have hh := hroom.hand
 have fin : ∀ (h' : Heap), Heap.ExtBut (s1.heap.push { cls := .type "tuple", data := .seq vals.toArray }).objs.size (s1.heap.push { cls := .type "tuple", data := .seq vals.toArray }) h' ->
     Ext [] G θ s G1 θ1 { s1 with heap := h' } /\ Inv prog w base G1 θ1 { s1 with heap := h' } μ' /\ FrameRep prog w G1 θ1 h' env ⟨sc, ρ⟩ := fun h' he => by
   have hkp : ∀ b o, (s1.heap.push { cls := .type "tuple", data := .seq vals.toArray }).get? b = some o -> h'.get? b = some o := fun b o e => he b o (Nat.ne_of_lt (Heap.lt_size e)) e
   have e3 : Ext [] G1 θ1 { s1 with heap := s1.heap.push { cls := .type "tuple", data := .seq vals.toArray } } G1 θ1 { s1 with heap := h' } := Ext.grow (t := s1.toks) hkp
   exact ⟨(e1.trans e2).trans e3, I2.grow hkp, R2.ext e3⟩
 cases o with
 | none =>
   show wpAny _ _ (assign (.Tuple _ k p) env (.ref s1.heap.objs.size) >>= fun _ => pure Flow.next) _ _ _
   refine wpAny_bind (wpAny_assign_Tuple hh ho (by rw [assignEach_names]; simp; omega) (by rw [assignEach_names]; simp) fun h' he => ?_)
   obtain ⟨e3, I3, R3⟩ := fin h' he
   rw [assignEach_names]
   have hv : vals.toArray.toList = vals := rfl
   rw [hv]
   refine s_rowA hlp (by omega) I3 R3 r1 hok fun s4 e4 I4 R4 => ?_
   exact wpAny_pure ⟨G1, θ1, e3.wf.trans e4, I4, R4, rfl⟩
 | some names =>
   have hn := hnames _ rfl
   subst hn
   show wpAny _ _ (do
     rule "assign.swapped-stores"
     let items <- unpackItems (.ref s1.heap.objs.size) names.length none
     assignInOrder (names.reverse.map fun n => bindName env n) items.reverse
     pure Flow.next) _ _ _
   have hsz : names.length = vals.toArray.size := by simp; omega
   rw [hsz]
   refine wpAny_bind (wpAny_rule (wpAny_bind (wpAny_unpackItems_tuple hh ho fun h' he => ?_)))
   obtain ⟨e3, I3, R3⟩ := fin h' he
   have hv : vals.toArray.toList = vals := rfl
   rw [hv]
   refine wpAny_bind (s_nameRow (f := bindName env) (fun h => wpAny_bindName h) (ns := names.reverse) (vs := vals.reverse) (Vs := us.reverse) (by simp; omega) I3 R3 r1.reverse (fun x hx => hok x (List.mem_reverse.mp hx)) fun s4 e4 I4 R4 => ?_)
   refine wpAny_pure ⟨G1, θ1, e3.wf.trans e4, I4, R4.congr fun y => ?_, rfl⟩
   have hz : names.reverse.zip us.reverse = (names.zip us).reverse := by
     have : ∀ (a : List Str) (b : List V), a.length = b.length -> a.reverse.zip b.reverse = (a.zip b).reverse := by
       intro a
       induction a with
       | nil => intro b _; simp
       | cons x a ih =>
         intro b hb
         cases b with
         | nil => cases hb
         | cons y b =>
           rw [List.reverse_cons, List.reverse_cons, List.zip_cons_cons, List.reverse_cons, List.zip_append (by simpa using hb), ih b (by simpa using hb)]
           rfl
     exact this _ _ hnl
   have hkeys : ((names.zip us).map (·.1)) = names := List.map_fst_zip (Nat.le_of_eq hnl)
   rw [hz, lookup_bindVs, lookup_bindVs, List.reverse_reverse, lookup_rev (by rw [hkeys]; exact hnd)]
theorem s_asgUnpack {ts : List Expr} {k : Nat} {p pos : Pos} {e : Expr} {x : PyData} (hs : SEv prog w base r n) (hroom : Room A n) (I : Inv prog w base G θ s μ) (R : FrameRep prog w G θ s.heap env ⟨sc, ρ⟩) (hnt : ∀ a b c, e ≠ .Tuple a b c)
   (h1 : r.ev ⟨sc, ρ⟩ e μ = some (.d x, μ')) (h2 : bindT sc true (.Tuple ts k p) x ρ = some ρ') :
   wpAny (model prog w) A (exec (.Assign [.Tuple ts k p] e pos) env) (PostX prog w base G θ s μ' env sc ρ' .next) no s := by
 rw [exec_Assign']
 have hsw : swapsWithSole [.Tuple ts k p] e pos.line env = pure false := by cases e <;> rfl
 rw [hsw]
 refine wpAny_bind (wpAny_standAt (wpAny_bind (wpAny_pure ?_)))
 simp only [Bool.false_eq_true, if_false]
 refine wpAny_bind (wpAny_mono (hs A G θ s μ env ⟨sc, ρ⟩ e (.d x) μ' hroom I R.rep h1) (fun v s1 p1 => ?_) fun _ _ q => q)
 refine p1.el fun G1 θ1 e1 I1 r1 => ?_
 obtain ⟨as, r1⟩ := r1.data
 have hst : swappedStores [.Tuple ts k p] e env = pure none := by cases e <;> first | rfl | exact absurd rfl (hnt _ _ _)
 rw [hst]
 refine wpAny_bind (wpAny_pure ?_)
 show wpAny _ _ (assign (.Tuple ts k p) env v >>= fun _ => pure Flow.next) _ _ _
 exact wpAny_bind (s_assignT hroom.hand (fnFrame prog w base env sc) I1 (R.ext e1) h2 (ItemIs.of_reads I1.sub r1) fun s2 e2 I2 R2 => wpAny_pure ⟨G1, θ1, e1.wf.trans e2, I2, R2, rfl⟩)
theorem s_asgItem {o i e : Expr} {p pos : Pos} {X O K : V} {μ1 μ2 μ3 : Sto} (hs : SEv prog w base r n) (hroom : Room A n) (I : Inv prog w base G θ s μ) (R : FrameRep prog w G θ s.heap env ⟨sc, ρ⟩)
   (h1 : r.ev ⟨sc, ρ⟩ e μ = some (X, μ1)) (h2 : r.ev ⟨sc, ρ⟩ o μ1 = some (O, μ2)) (h3 : r.ev ⟨sc, ρ⟩ i μ2 = some (K, μ3)) (h4 : storeM μ3 O K X = some μ') :
   wpAny (model prog w) A (exec (.Assign [.Subscript o i p] e pos) env) (PostX prog w base G θ s μ' env sc ρ .next) no s := by
 have hsw : swapsWith e (some (.Subscript o i p)) pos.line env = pure false := by cases e <;> rfl
 refine wpAny_Assign_Subscript (wpAny_mono (hs A G θ s μ env ⟨sc, ρ⟩ e X μ1 hroom I R.rep h1) (fun v s1 p1 => ?_) fun _ _ q => q) hsw
 refine p1.el fun G1 θ1 e1 I1 r1 => ?_
 have R1 := R.ext e1
 refine wpAny_mono (hs A G1 θ1 s1 μ1 env ⟨sc, ρ⟩ o O μ2 hroom I1 R1.rep h2) (fun ov s2 p2 => ?_) fun _ _ q => q
 refine p2.el fun G2 θ2 e2 I2 r2 => ?_
 have R2 := R1.ext e2
 refine wpAny_mono (hs A G2 θ2 s2 μ2 env ⟨sc, ρ⟩ i K μ3 hroom I2 R2.rep h3) (fun kv s3 p3 => ?_) fun _ _ q => q
 refine p3.el fun G3 θ3 e3 I3 r3 => ?_
 have R3 := R2.ext e3
 refine wpAny_mono (s_setItem hroom.units200 I3 (e3.rv r2) r3 ((e2.trans e3).rv r1) h4) (fun _ s4 p4 => ?_) fun _ _ q => q
 obtain ⟨e4, I4⟩ := p4
 exact ⟨G3, θ3, ((e1.trans e2).trans (e3.trans e4)).wf, I4, R3.ext e4, rfl⟩
theorem attrs_snoc {es : List DictEntry} {l : List (Str × V)} {e : DictEntry} {name : Str} {t : Tok} {X : V} (h : AttrsAre prog w G θ es l) (hk : e.key = .str name t) (hr : RV prog w G θ e.val X) : AttrsAre prog w G θ (es ++ [e]) (l ++ [(name, X)]) := by
 induction h with
 | nil => exact .cons hk hr .nil
 | cons a b _ ih => exact .cons a b ih
theorem attrs_len {es : List DictEntry} {l : List (Str × V)} (h : AttrsAre prog w G θ es l) : es.length = l.length := by
 induction h with
 | nil => rfl
 | cons _ _ _ ih => simp [ih]
theorem s_setAttr {ov v : Value} {O X : V} {name : Str} (H : ClsOk P prog w base) (I : Inv prog w base G θ s μ) (ro : RV prog w G θ ov O) (rv : RV prog w G θ v X) (h : setAttrM P μ O name X = some μ') :
   wpAny (model prog w) A (setAttr ov name v) (fun _ s' => Ext [] G θ s G θ s' /\ Inv prog w base G θ s' μ') no s := by
 refine bind1 h fun q hq h => bind1 h fun l hl h => if_some h fun hk h => inj1 h fun e => ?_
 subst e
 have hm := at_attrs hl
 simp only [Bool.and_eq_true, Option.isNone_iff_eq_none, decide_eq_true_eq] at hk
 obtain ⟨⟨⟨⟨k1, k2⟩, k3⟩, k4⟩, k5⟩ := hk
 refine of_inst (of_instV hq ▸ ro) fun x dx e h1 h2 => ?_
 subst e
 obtain ⟨hg, es, n, h3, h4⟩ := I.rep q.2 dx _ h2 hm
 have hlen : es.length <= 10 := Nat.le_trans (Nat.le_of_lt (attrs_len h4 ▸ k5)) (by decide)
 exact H.setattr k1 (by simpa using k2) (I.bs.trans I.sub) (I.sub _ _ h1) h3 ((attrs_get h4 name).2 k4) hlen fun h' e n' t k hk hv ho hsb =>
   ⟨Ext.set (List.mem_of_getElem? h2) hsb ⟨_, ho⟩, (I.set (mo := .attrs (l ++ [(name, X)])) h2 hg hsb ⟨_, ho⟩ ⟨hg, _, n', ho, attrs_snoc h4 hk (by rw [hv]; exact rv)⟩).toks _⟩
theorem s_asgAttr {o e : Expr} {name : Str} {p pos : Pos} {X O : V} {μ1 μ2 : Sto} (H : ClsOk P prog w base) (hs : SEv prog w base r n) (hroom : Room A n) (I : Inv prog w base G θ s μ) (R : FrameRep prog w G θ s.heap env ⟨sc, ρ⟩)
   (h1 : r.ev ⟨sc, ρ⟩ e μ = some (X, μ1)) (h2 : r.ev ⟨sc, ρ⟩ o μ1 = some (O, μ2)) (h3 : setAttrM P μ2 O name X = some μ') :
   wpAny (model prog w) A (exec (.Assign [.Attribute o name p] e pos) env) (PostX prog w base G θ s μ' env sc ρ .next) no s := by
 rw [exec_Assign']
 have hsw : swapsWithSole [.Attribute o name p] e pos.line env = pure false := by cases e <;> rfl
 rw [hsw]
 refine wpAny_bind (wpAny_standAt (wpAny_bind (wpAny_pure ?_)))
 simp only [Bool.false_eq_true, if_false]
 refine wpAny_bind (wpAny_mono (hs A G θ s μ env ⟨sc, ρ⟩ e X μ1 hroom I R.rep h1) (fun v s1 p1 => ?_) fun _ _ q => q)
 refine p1.el fun G1 θ1 e1 I1 r1 => ?_
 have R1 := R.ext e1
 have hst : swappedStores [.Attribute o name p] e env = pure none := rfl
 rw [hst]
 refine wpAny_bind (wpAny_pure ?_)
 show wpAny _ _ ((do
   let ov <- holding [v] (eval o env)
   standAt p.atName
   holding [v, ov] (setAttr ov name v)
   release [v, ov] []) >>= fun _ => pure Flow.next) _ _ _
 refine wpAny_bind (wpAny_bind (wpAny_holding (wpAny_mono (hs A G1 θ1 s1 μ1 env ⟨sc, ρ⟩ o O μ2 hroom I1 R1.rep h2) (fun ov s2 p2 => ?_) fun _ _ q => q)))
 refine p2.el fun G2 θ2 e2 I2 r2 => ?_
 have R2 := R1.ext e2
 refine wpAny_bind (wpAny_standAt (wpAny_bind (wpAny_holding (wpAny_mono (s_setAttr H I2 r2 (e2.rv r1) h3) (fun _ s3 p3 => ?_) fun _ _ q => q))))
 obtain ⟨e3, I3⟩ := p3
 exact wpAny_release (wpAny_pure ⟨G2, θ2, ((e1.trans e2).trans e3).wf, I3, R2.ext e3, rfl⟩)
end
end Mine
end
section
namespace Mine
open PySem PySem.W PyProof.Rows PySem.Spec
section
variable {P : Par} {prog : Program} {w : World} {base G G' : Heap} {θ θ' : List Addr} {s s' : Shared} {μ μ' : Sto} {A : Around} {n : Nat} {r : Rec} {env : Env} {fm : Fm} {sc : Scope} {ρ ρ' : Loc} {c : Bool} {W : List Addr}
theorem FrameRep.after {fl : Flw} {f : Flow} {s1 : Shared} (p : PostX prog w base G θ s μ' env sc ρ' .next f s1) : ∃ G' θ', Ext (WF env) G θ s G' θ' s1 /\ Inv prog w base G' θ' s1 μ' /\ FrameRep prog w G' θ' s1.heap env ⟨sc, ρ'⟩ /\ f = .next := p
theorem whileM_succ {test : Expr} {body : List Stmt} {k : Nat} {fl : Flw} (h : whileM r sc test body (k + 1) ρ μ = some (fl, ρ', μ')) : ∃ b μ1, r.tr ⟨sc, ρ⟩ test μ = some (b, μ1) /\
   ((b = false /\ fl = .next /\ ρ' = ρ /\ μ' = μ1) \/ (b = true /\ ∃ fl1 ρ1 μ2, r.exs sc body ρ μ1 = some (fl1, ρ1, μ2) /\ match fl1 with
     | .next => whileM r sc test body k ρ1 μ2 = some (fl, ρ', μ')
     | .ret v => fl = .ret v /\ ρ1 = ρ' /\ μ2 = μ')) := by
 exact bind2 h fun b μ1 h1 h => ⟨b, μ1, h1, by
   cases b with
   | false => exact inj3 h fun a b c => .inl ⟨rfl, a.symm, b.symm, c.symm⟩
   | true => exact bind3 h fun fl1 ρ1 μ2 h3 h4 => .inr ⟨rfl, fl1, ρ1, μ2, h3, by
       cases fl1 with
       | next => exact h4
       | ret v => exact inj3 h4 fun a b c => ⟨a.symm, b, c⟩⟩⟩
noncomputable def WhileAt (prog : Program) (w : World) (base : Heap) (env : Env) (r : Rec) (sc : Scope) (test : Expr) (body : List Stmt) (z : Flw × Loc × Sto) (G : Heap) (θ : List Addr) (s : Shared) (k : Nat) (s1 : Shared) : Prop :=
 ∃ G1 θ1 μ1 ρ1, whileM r sc test body k ρ1 μ1 = some z /\ Ext (WF env) G θ s G1 θ1 s1 /\ Inv prog w base G1 θ1 s1 μ1 /\ FrameRep prog w G1 θ1 s1.heap env ⟨sc, ρ1⟩
theorem s_while {test : Expr} {body : List Stmt} {pos : Pos} {k : Nat} {fl : Flw} (ht : STr prog w base r n) (hx : SExs prog w base r n) (hroom : Room A n) (I : Inv prog w base G θ s μ) (R : FrameRep prog w G θ s.heap env ⟨sc, ρ⟩)
   (h : whileM r sc test body k ρ μ = some (fl, ρ', μ')) : wpAny (model prog w) A (exec (.While test body [] pos) env) (PostX prog w base G θ s μ' env sc ρ' fl) no s := by
 refine wpAny_While ?_
 refine codeAny_mono (R := fun q s' => ∃ f, q = .ok f /\ PostX prog w base G θ s μ' env sc ρ' fl f s') ?_ (fun q s' z => by obtain ⟨f, rfl, p⟩ := z; exact p)
 refine codeAny_whileLoop (WhileAt prog w base env r sc test body (fl, ρ', μ') G θ s) ?_ k
   ⟨G, θ, μ, ρ, h, Ext.refl _ _ _ _, I, R⟩
 rintro k s1 ⟨G1, θ1, μ1, ρ1, hw, e1, I1, R1⟩
 cases k with
 | zero => exact no_some hw
 | succ k =>
   obtain ⟨b, μ2, h1, h2⟩ := whileM_succ hw
   refine no_any (wpAny_mono (ht A G1 θ1 s1 μ1 env ⟨sc, ρ1⟩ test b μ2 hroom I1 R1.rep h1) (fun b' s2 p2 => ?_) fun _ _ x => x)
   refine p2.el ?_; clear p2; rintro rfl G2 θ2 e2 I2
   have R2 := R1.ext e2
   rcases h2 with ⟨rfl, rfl, rfl, rfl⟩ | ⟨rfl, fl1, ρ3, μ3, h3, h4⟩
   · simp only [Bool.false_eq_true, if_false]
     exact wpAny_execs_nil ⟨_, rfl, G2, θ2, e1.trans e2.wf, I2, R2, rfl⟩
   · simp only [if_true]
     refine no_any (wpAny_mono (hx A G2 θ2 s2 μ2 env sc ρ1 body fl1 ρ3 μ3 hroom I2 R2 h3) (fun f s3 p3 => ?_) fun _ _ x => x)
     obtain ⟨G3, θ3, e3, I3, R3, hfl⟩ := p3
     have e03 := (e1.trans e2.wf).trans e3
     cases fl1 with
     | next => subst hfl; exact ⟨k, Nat.lt_succ_self k, G3, θ3, μ3, ρ3, h4, e03, I3, R3⟩
     | ret V =>
       obtain ⟨v, rfl, rv⟩ := hfl
       obtain ⟨rfl, rfl, rfl⟩ := h4
       exact ⟨_, rfl, G3, θ3, e03, I3, R3, v, rfl, rv⟩
section
variable {fl : Flw} (B : BaseOk P prog w base) (H : ClsOk P prog w base) (hs : SEv prog w base r n) (ht : STr prog w base r n) (hx : SExs prog w base r n) (hst : NoStar r) (hroom : Room A n) (I : Inv prog w base G θ s μ) (R : FrameRep prog w G θ s.heap env ⟨sc, ρ⟩)
include B H hs ht hst hroom I R
theorem s_asgM {t e : Expr} {p0 : Pos} (h : asgM P r sc t e ρ μ = some (fl, ρ', μ')) : wpAny (model prog w) A (exec (.Assign [t] e p0) env) (PostX prog w base G θ s μ' env sc ρ' fl) no s := by
 unfold asgM at h
 cases hn : nameOf t with
 | some x =>
   rw [hn] at h
   obtain ⟨p, rfl⟩ := of_nameE hn
   cases hl : lcE e with
   | some q =>
     rw [hl] at h
     obtain ⟨p1, rfl⟩ := of_lcE hl
     exact bind2 h fun v μ1 h1 h => if_some h fun hk h => inj3 h fun e1 e2 e3 => e1 ▸ e2 ▸ e3 ▸ s_asgComp B hs ht hst hroom I R h1 hk
   | none =>
     rw [hl] at h
     exact if_no h fun hsd h => bind2 h fun v μ1 h1 h => if_some h fun hk h => inj3 h fun e1 e2 e3 => e1 ▸ e2 ▸ e3 ▸ s_asgName hs hroom I R (fun a b c d e' => no_some (hl.symm.trans (congrArg lcE e'))) (Bool.eq_false_iff.mpr hsd) h1 hk
 | none =>
   rw [hn] at h
   cases htu : tupE t with
   | some ts =>
     rw [htu] at h
     obtain ⟨k, p, rfl⟩ := of_tupE htu
     cases hv : tupE e with
     | some vs =>
       rw [hv] at h
       obtain ⟨k', p', rfl⟩ := of_tupE hv
       exact bind2 h fun us μ1 h1 h => bind1 h fun ns h3 h => if_some h fun hk h => bind1 h fun ρ1 h5 h => inj3 h fun e1 e2 e3 => e1 ▸ e2 ▸ e3 ▸ s_asgTuples hs hst hroom I R h1 h3 (and3 hk).1 (of_decide_eq_true (and3 hk).2.1) (not_t (and3 hk).2.2) h5
     | none =>
       rw [hv] at h
       exact bind2 h fun v μ1 h1 h => bind1 h fun x hx h => bind1 h fun ρ1 h3 h => inj3 h fun e1 e2 e3 => e1 ▸ e2 ▸ e3 ▸ s_asgUnpack hs hroom I R (fun a b c e' => no_some (hv.symm.trans (congrArg tupE e'))) (of_dat hx ▸ h1) h3
   | none =>
     rw [htu] at h
     cases hsb : subE t with
     | some q =>
       rw [hsb] at h
       obtain ⟨p, rfl⟩ := of_subE hsb
       exact bind2 h fun v μ1 h1 h => bind2 h fun ov μ2 h2 h => bind2 h fun k μ3 h3 h => bind1 h fun μ4 h4 h => inj3 h fun e1 e2 e3 => e1 ▸ e2 ▸ e3 ▸ s_asgItem hs hroom I R h1 h2 h3 h4
     | none =>
       rw [hsb] at h
       refine bind1 h fun q hq h => ?_
       rw [of_attrE hq]
       exact bind2 h fun v μ1 h1 h => bind2 h fun ov μ2 h2 h => bind1 h fun μ4 h4 h => inj3 h fun e1 e2 e3 => e1 ▸ e2 ▸ e3 ▸ s_asgAttr H hs hroom I R h1 h2 h4
include hx
theorem s_stepEx {st : Stmt} (h : stepEx P r sc st ρ μ = some (fl, ρ', μ')) : wpAny (model prog w) A (exec st env) (PostX prog w base G θ s μ' env sc ρ' fl) no s := by
 cases st with
 | Assign ts e p0 =>
   refine bind1 h fun t h1 h => ?_
   rw [of_one h1]
   exact s_asgM B H hs ht hst hroom I R h
 | If t b o p =>
   refine bind2 h fun c μ1 h1 h2 => ?_
   refine wpAny_If (wpAny_mono (ht A G θ s μ env ⟨sc, ρ⟩ _ c μ1 hroom I R.rep h1) (fun b' s1 p1 => p1.el fun e G1 θ1 e1 I1 => ?_) fun _ _ x => x)
   subst e
   cases b' with
   | true => exact wpAny_mono (hx A G1 θ1 s1 μ1 env sc ρ _ fl ρ' μ' hroom I1 (R.ext e1) h2) (fun _ _ p => PostX.of e1.wf p) fun _ _ x => x
   | false => exact wpAny_mono (hx A G1 θ1 s1 μ1 env sc ρ _ fl ρ' μ' hroom I1 (R.ext e1) h2) (fun _ _ p => PostX.of e1.wf p) fun _ _ x => x
 | For tgt it body els p =>
   refine if_some h fun he h => bind3' h fun ow l μ1 h1 h => if_no h fun hw h => ?_
   rw [List.isEmpty_iff.mp he]
   exact s_for B hs hx hst hroom I R h1 (fun e => apart_no hw e) h
 | While t body els p =>
   refine if_some h fun he h => ?_
   rw [List.isEmpty_iff.mp he]
   exact s_while ht hx hroom I R h
 | Return v p =>
   refine bind1 h fun e he h => bind2 h fun v μ1 h1 h => inj3 h fun e1 e2 e3 => ?_
   rw [he, <- e1, <- e2, <- e3]
   exact wpAny_Return_some (wpAny_mono (hs A G θ s μ env ⟨sc, ρ⟩ _ v _ hroom I R.rep h1) (fun v' s1 p1 => p1.el fun G1 θ1 e1 I1 r1 => ⟨G1, θ1, e1.wf, I1, R.ext e1, v', rfl, r1⟩) fun _ _ x => x)
 | Expr e p =>
   refine if_some h fun hc h => bind2 h fun v μ1 h1 h => bind1 h fun x hx h => if_some h fun hn h => inj3 h fun e1 e2 e3 => ?_
   rw [<- e1, <- e2, <- e3]
   have hsw : swapsWith e none p.line env = pure false := by
     cases e <;> first | rfl | exact no_ft hc
   exact wpAny_Expr_any (wpAny_mono (hs A G θ s μ env ⟨sc, ρ⟩ e _ _ hroom I R.rep h1) (fun v' s1 p1 => p1.el fun G1 θ1 e1 I1 r1 => ⟨G1, θ1, e1.wf, I1, R.ext e1, rfl⟩) fun _ _ x => x) (by unfold interactive; rw [R.rep.kind]; rfl) hsw
 | _ => exact no_some h
end
theorem s_stepExs (B : BaseOk P prog w base) (H : ClsOk P prog w base) (hs : SEv prog w base r n) (ht : STr prog w base r n) (hx : SExs prog w base r n) (hst : NoStar r) (hroom : Room A n) {sts : List Stmt} : ∀ {G : Heap} {θ : List Addr} {s : Shared} {μ : Sto} {ρ : Loc} {fl : Flw} {ρ' : Loc} {μ' : Sto},
   Inv prog w base G θ s μ -> FrameRep prog w G θ s.heap env ⟨sc, ρ⟩ -> stepExs P r sc sts ρ μ = some (fl, ρ', μ') -> wpAny (model prog w) A (execs sts env) (PostX prog w base G θ s μ' env sc ρ' fl) no s := by
 induction sts with
 | nil => exact fun I R h => inj3 h fun e1 e2 e3 => e1 ▸ e2 ▸ e3 ▸ wpAny_execs_nil ⟨_, _, Ext.refl _ _ _ _, I, R, rfl⟩
 | cons st rest ih =>
   intro G θ s μ ρ fl ρ' μ' I R h
   refine bind3 h fun fl1 ρ1 μ1 h1 h2 => wpAny_execs_cons (wpAny_mono (s_stepEx B H hs ht hx hst hroom I R h1) (fun f s1 p1 => ?_) fun _ _ x => x)
   obtain ⟨G1, θ1, e1, I1, R1, hf⟩ := p1
   cases fl1 with
   | next =>
     subst hf
     exact wpAny_mono (ih I1 R1 h2) (fun _ _ p => PostX.of e1 p) fun _ _ x => x
   | ret V =>
     obtain ⟨v, rfl, rv⟩ := hf
     exact inj3 h2 fun a b c => a ▸ b ▸ c ▸ ⟨G1, θ1, e1, I1, R1, v, rfl, rv⟩
end
end Mine
end
section
namespace Mine
open PySem PySem.W PyProof.Rows PySem.Spec
section
variable {P : Par} {prog : Program} {w : World} {base G G' : Heap} {θ θ' : List Addr} {s s' : Shared} {μ μ' : Sto} {A : Around} {n : Nat} {r : Rec} {env : Env} {fm : Fm} {sc : Scope} {ρ ρ' : Loc} {c : Bool} {W : List Addr}
theorem s_stepEv {e : Expr} {X : V} {rr : Rec} (B : BaseOk P prog w base) (H : ClsOk P prog w base) (hs : SEv prog w base r n) (ht : STr prog w base r n) (hc : SCall prog w base r n) (hst : NoStar r) (hroom : Room A n)
   (hrc : ∀ F Vs μ, r.call F Vs μ = callM P rr F Vs μ \/ r.call F Vs μ = none) (I : Inv prog w base G θ s μ) (R : EnvRep prog w G θ s.heap env fm) (h : stepEv P r fm e μ = some (X, μ')) :
   wpAny (model prog w) A (eval e env) (Post prog w base G θ s μ' X) no s := by
 cases e with
 | Constant c k p => exact bind1 h fun v h1 h => inj2 h fun e e' => e ▸ e' ▸ s_const I h1
 | Name x p => exact bind1 h fun v h1 h => inj2 h fun e e' => e ▸ e' ▸ s_name B I R h1
 | BoolOp op vs p => rw [arm_eval_BoolOp]; exact s_boolOp hs hroom I R h
 | BinOp l op x p =>
   exact bind2 h fun a μ1 h1 h => bind2 h fun b μ2 h3 h => bind1 h fun u hu h => bind1 h fun v hv h => bind1 h fun cc h5 h => inj2 h fun e e' => e ▸ e' ▸
     wpAny_BinOp (wpAny_mono (hs A G θ s μ env fm _ _ μ1 hroom I R h1) (fun v1 s1 p1 => p1.el fun G1 t1 e1 I1 r1 =>
       wpAny_mono (hs A G1 t1 s1 μ1 env fm _ _ _ hroom I1 (R.ext e1) h3) (fun v2 s2 p2 => p2.el fun G2 t2 e2 I2 r2 =>
         (of_dat hu ▸ e2.rv r1 : RV prog w G2 t2 v1 (.d u)).data.elim fun as q1 => (of_dat hv ▸ r2 : RV prog w G2 t2 v2 (.d v)).data.elim fun bs q2 =>
           wpAny_mono (s_bin I2 q1 q2 h5) (fun _ _ p => Post.of (e1.trans e2) p) fun _ _ x => x) fun _ _ x => x) fun _ _ x => x)
 | UnaryOp op x p =>
   cases op with
   | USub =>
     refine bind2 h fun a μ1 h1 h => bind1 h fun i hi h => if_some h fun _ h => inj2 h fun e e' => e ▸ e' ▸ ?_
     rw [arm_eval_UnaryOp]
     exact wpAny_bind (wpAny_mono (hs A G θ s μ env fm _ _ _ hroom I R h1) (fun v1 s1 p1 => p1.el fun G1 t1 e1 I1 r1 =>
       (d_int hi ▸ r1 : RV prog w G1 t1 v1 (.d (.int i))).data.elim fun as q1 => of_int q1 fun t ev => ev ▸ wpAny_bind (wpAny_standAt (wpAny_holding (PyProof.Rows.neg_int (Post.of e1 (Post.toks I1 _ (.d (.int _ _)))))))) fun _ _ x => x)
   | _ => exact no_some h
 | IfExp t b o p =>
   refine bind2 h fun b μ1 h1 h2 => wpAny_IfExp (wpAny_mono (ht A G θ s μ env fm _ b μ1 hroom I R h1) (fun b' s1 p1 => p1.el fun e G1 t1 e1 I1 => ?_) fun _ _ x => x)
   subst e
   cases b' with
   | true => exact wpAny_mono (hs A G1 t1 s1 μ1 env fm _ _ _ hroom I1 (R.ext e1) h2) (fun _ _ p => Post.of e1 p) fun _ _ x => x
   | false => exact wpAny_mono (hs A G1 t1 s1 μ1 env fm _ _ _ hroom I1 (R.ext e1) h2) (fun _ _ p => Post.of e1 p) fun _ _ x => x
 | Dict ks vs p =>
   refine if_some h fun hk h => inj2 h fun e e' => e ▸ e' ▸ ?_
   rw [List.isEmpty_iff.mp (and_t hk).1, List.isEmpty_iff.mp (and_t hk).2]
   exact s_dictE (B.big I) I
 | List elts p => exact s_listE hs hst hroom I R h
 | Tuple elts k p => exact s_tupleE hs hst hroom I R h
 | ListComp elt gens sc p => exact s_listComp B hs ht hst hroom I R h
 | Compare l ops xs p =>
   refine bind1 h fun op ho h => bind1 h fun x hx h => ?_
   rw [of_one ho, of_one hx]
   exact s_cmpE hs hroom I R h
 | Call f args kws p =>
   refine if_some h fun hk h => ?_
   rw [List.isEmpty_iff.mp hk]
   unfold evCall at h
   cases ha : attrE f with
   | some q =>
     rw [ha] at h
     rw [of_attrE ha]
     exact if_some h fun hok h => bind2 h fun ov μ1 h1 h => if_some h fun hp h => bind2 h fun vs μ2 h3 h4 => s_meth B H hs hc hst hroom I R hok h1 hp h3 h4
   | none =>
     rw [ha] at h
     refine bind1 h fun x hx h => (of_nameE hx).elim fun q e => ?_
     rw [e]
     exact bind1 h fun g h1 h => bind2 h fun vs μ1 h3 h4 => s_callE (m := n) B hs hc hst hroom hrc I R h1 h3 h4
 | Attribute o name p => exact if_some h fun hb h => bind2 h fun ov μ1 h1 h => bind1 h fun v h3 h => inj2 h fun e e' => e ▸ e' ▸ s_attrE H hs hroom I R hb h1 h3
 | Subscript v i p =>
   have h : evSub r fm v i μ = some (X, μ') := h
   unfold evSub at h
   cases hi : sliceE i with
   | some q =>
     rw [hi] at h
     obtain ⟨p, rfl⟩ := of_sliceE hi
     exact bind2 h fun o μ1 h1 h => bind2 h fun a μ2 h3 h => bind2 h fun b μ3 h5 h => bind2 h fun cc μ4 h7 h => bind1 h fun x h9 h => inj2 h fun e e' => e ▸ e' ▸ s_subSlice hs hroom I R h1 h3 h5 h7 h9
   | none =>
     rw [hi] at h
     exact bind2 h fun o μ1 h1 h => bind2 h fun k μ2 h3 h => bind1 h fun x h5 h => inj2 h fun e e' => e ▸ e' ▸ s_subItem hs hroom I R h1 h3 h5
 | _ => exact no_some h
theorem noStar_lvl (P : Par) : ∀ n, NoStar (Lvl P n)
 | 0 => fun _ _ _ _ => rfl
 | n + 1 => fun _ _ _ _ => rfl
theorem call_lvl (P : Par) : ∀ n, ∃ rr, ∀ F Vs μ, (Lvl P n).call F Vs μ = callM P rr F Vs μ \/ (Lvl P n).call F Vs μ = none
 | 0 => ⟨Lvl P 0, fun _ _ _ => .inr rfl⟩
 | n + 1 => ⟨Lvl P n, fun _ _ _ => .inl rfl⟩
theorem sound (c : Nat) (hc0 : 100 <= c \/ P.ctor = fun _ => none) (B : BaseOk P prog w base) (H : ClsOk P prog w base) : ∀ n, SEv prog w base (Lvl P n) (n + c) /\ STr prog w base (Lvl P n) (n + c) /\ SExs prog w base (Lvl P n) (n + c) /\ SCall prog w base (Lvl P n) (n + c)
 | 0 => ⟨fun _ _ _ _ _ _ _ _ _ _ _ _ _ h => (by exact no_some h), fun _ _ _ _ _ _ _ _ _ _ _ _ _ h => (by exact no_some h), fun _ _ _ _ _ _ _ _ _ _ _ _ _ _ _ h => (by exact no_some h), fun _ _ _ _ _ _ _ _ _ _ _ _ _ _ _ h => (by exact no_some h)⟩
 | n + 1 => by
   obtain ⟨hs, ht, hx, hc⟩ := sound c hc0 B H n
   obtain ⟨rr, hrc⟩ := call_lvl P n
   have hst := noStar_lvl P n
   refine ⟨fun A G θ s μ env fm e V μ' hroom I R h => s_stepEv B H hs ht hc hst (hroom.less (by omega)) hrc I R h,
     fun A G θ s μ env fm e b μ' hroom I R h => s_stepTr hs ht (hroom.less (by omega)) I R h,
     fun A G θ s μ env sc ρ sts fl ρ' μ' hroom I R h => s_stepExs B H hs ht hx hst (hroom.less (by omega)) I R h,
     fun A G θ s μ f F vs Vs V μ' hroom I rf rs h => s_callM B H hx (n := n + c) (hroom.less (by omega)) (hc0.imp (fun q => by omega) id) I rf rs h⟩
end
end Mine
end
section
namespace Mine
open PySem PySem.W PyProof.Rows
noncomputable def dE (P : Params) (x : Str) (t : Nat) (v : Value) : DictEntry := { hash := PyData.keyHash P x, key := .str x t, val := v }
noncomputable def stAt (k : Nat) : Option Stmt := match k % 100 with
 | 0 => (progBody.drop (k / 100)).head?
 | j + 1 => (progBody.drop (k / 100)).head?.bind fun st => ((clsBodyOf st).drop j).head?
noncomputable def xP (k : Nat) : Arguments := match stAt k with
 | some (.FunctionDef _ a _ _ _ _ _ _ _ _) => a
 | _ => ⟨[], [], none, [], [], none, []⟩
noncomputable def xB (k : Nat) : List Stmt := match stAt k with
 | some (.FunctionDef _ _ b _ _ _ _ _ _ _) => b
 | _ => []
noncomputable def xS (k : Nat) : Scope := match stAt k with
 | some (.FunctionDef _ _ _ _ _ _ sc _ _ _) => sc
 | _ => default
noncomputable def KK (P : Params) : Frag := [
 (2, { cls := .none, data := .dict #[dE P "type.__subclasses__.Exception.0" 223 (.int 40 0), dE P "type.__subclasses__.Exception.n" 224 (.int 1 0)] 2 }),
 (3, { cls := .type "dict", data := .dict #[dE P "__name__" 165 (.str "law_sa0018_01" 384), dE P "__doc__" 166 (.none), dE P "__package__" 167 (.none), dE P "__loader__" 168 (.builtin "__main__.__loader__#opaque"), dE P "__spec__" 169 (.none), dE P "__annotations__" 170 (.ref 6), dE P "__builtins__" 171 (.ref 4), dE P "__file__" 173 (.str "/claim/cut.py" 172), dE P "__cached__" 174 (.none), dE P "HeapError" 226 (.ref 40), dE P "RuleFault" 242 (.ref 53), dE P "is_variable" 251 (.ref 62), dE P "parts" 257 (.ref 67), dE P "place_of_op" 267 (.ref 74), dE P "counted" 277 (.ref 81), dE P "PathOrder" 333 (.ref 117), dE P "WeightOrder" 374 (.ref 150), dE P "turned_by" 383 (.ref 159), dE P "_law_heads" 406 (.ref 170), dE P "_law_sip" 415 (.ref 177), dE P "_law_pattern" 421 (.ref 182), dE P "_law_inside" 427 (.ref 187), dE P "_law_head" 435 (.ref 194), dE P "_law_comes" 441 (.ref 199), dE P "_law_gathered" 453 (.ref 206), dE P "_law_names" 459 (.ref 211), dE P "_law_is_heavier" 465 (.ref 216), dE P "law" 471 (.ref 221)] 28 }),
 (61, { cls := .type "code", data := .fields #[.str "is_variable" 245, .str "is_variable" 246, .str "/claim/cut.py" 247, .int 13 0, .int 1 0, .int 0 0, .int 0 0, .int 3 0, .ref 56, .bool true, .int 181 0, .ref 57, .none, .ref 58, .ref 59, .ref 60, .int 249 0, .int 13 0, .str "/claim/cut.py" 250] }),
 (62, { cls := .type "function", data := .func { name := "is_variable", qualname := "is_variable", params := xP 400, body := .stmts (xB 400), scope := xS 400, globals := 3, closure := [], defaults := .none, kwdefaults := .none, pyModule := .str "alikeheap.terms" 243, code := .ref 61 } }),
 (66, { cls := .type "code", data := .fields #[.str "parts" 252, .str "parts" 253, .str "/claim/cut.py" 254, .int 15 0, .int 1 0, .int 0 0, .int 0 0, .int 3 0, .ref 63, .bool true, .int 181 0, .ref 64, .none, .none, .none, .ref 65, .int 255 0, .int 15 0, .str "/claim/cut.py" 256] }),
 (67, { cls := .type "function", data := .func { name := "parts", qualname := "parts", params := xP 500, body := .stmts (xB 500), scope := xS 500, globals := 3, closure := [], defaults := .none, kwdefaults := .none, pyModule := .str "alikeheap.terms" 243, code := .ref 66 } }),
 (73, { cls := .type "code", data := .fields #[.str "place_of_op" 260, .str "place_of_op" 261, .str "/claim/cut.py" 262, .int 21 0, .int 2 0, .int 0 0, .int 0 0, .int 3 0, .ref 68, .bool true, .int 181 0, .ref 69, .none, .ref 70, .ref 71, .ref 72, .int 265 0, .int 21 0, .str "/claim/cut.py" 266] }),
 (74, { cls := .type "function", data := .func { name := "place_of_op", qualname := "place_of_op", params := xP 700, body := .stmts (xB 700), scope := xS 700, globals := 3, closure := [], defaults := .none, kwdefaults := .none, pyModule := .str "alikeheap.orders" 258, code := .ref 73 } }),
 (80, { cls := .type "code", data := .fields #[.str "counted" 268, .str "counted" 269, .str "/claim/cut.py" 270, .int 23 0, .int 1 0, .int 0 0, .int 0 0, .int 3 0, .ref 75, .bool true, .int 181 0, .ref 76, .none, .ref 77, .ref 78, .ref 79, .int 275 0, .int 23 0, .str "/claim/cut.py" 276] }),
 (81, { cls := .type "function", data := .func { name := "counted", qualname := "counted", params := xP 800, body := .stmts (xB 800), scope := xS 800, globals := 3, closure := [], defaults := .none, kwdefaults := .none, pyModule := .str "alikeheap.orders" 258, code := .ref 80 } }),
 (94, { cls := .type "code", data := .fields #[.str "__init__" 290, .str "PathOrder.__init__" 291, .str "/claim/cut.py" 292, .int 31 0, .int 2 0, .int 0 0, .int 0 0, .int 3 0, .ref 89, .bool true, .int 181 0, .ref 90, .none, .ref 91, .ref 92, .ref 93, .int 295 0, .int 31 0, .str "/claim/cut.py" 296] }),
 (95, { cls := .type "function", data := .func { name := "__init__", qualname := "PathOrder.__init__", params := xP 901, body := .stmts (xB 901), scope := xS 901, globals := 3, closure := [], defaults := .none, kwdefaults := .none, pyModule := .str "alikeheap.orders" 258, code := .ref 94 } }),
 (101, { cls := .type "code", data := .fields #[.str "above" 298, .str "PathOrder.above" 299, .str "/claim/cut.py" 300, .int 35 0, .int 3 0, .int 0 0, .int 0 0, .int 3 0, .ref 96, .bool true, .int 181 0, .ref 97, .none, .ref 98, .ref 99, .ref 100, .int 304 0, .int 35 0, .str "/claim/cut.py" 305] }),
 (102, { cls := .type "function", data := .func { name := "above", qualname := "PathOrder.above", params := xP 902, body := .stmts (xB 902), scope := xS 902, globals := 3, closure := [], defaults := .none, kwdefaults := .none, pyModule := .str "alikeheap.orders" 258, code := .ref 101 } }),
 (106, { cls := .type "code", data := .fields #[.str "is_above" 307, .str "PathOrder.is_above" 308, .str "/claim/cut.py" 309, .int 40 0, .int 3 0, .int 0 0, .int 0 0, .int 3 0, .ref 103, .bool true, .int 181 0, .ref 104, .none, .none, .none, .ref 105, .int 310 0, .int 40 0, .str "/claim/cut.py" 311] }),
 (107, { cls := .type "function", data := .func { name := "is_above", qualname := "PathOrder.is_above", params := xP 903, body := .stmts (xB 903), scope := xS 903, globals := 3, closure := [], defaults := .none, kwdefaults := .none, pyModule := .str "alikeheap.orders" 258, code := .ref 106 } }),
 (113, { cls := .type "code", data := .fields #[.str "first_above" 313, .str "PathOrder.first_above" 314, .str "/claim/cut.py" 315, .int 50 0, .int 3 0, .int 0 0, .int 0 0, .int 3 0, .ref 108, .bool true, .int 181 0, .ref 109, .none, .ref 110, .ref 111, .ref 112, .int 321 0, .int 50 0, .str "/claim/cut.py" 322] }),
 (114, { cls := .type "function", data := .func { name := "first_above", qualname := "PathOrder.first_above", params := xP 904, body := .stmts (xB 904), scope := xS 904, globals := 3, closure := [], defaults := .none, kwdefaults := .none, pyModule := .str "alikeheap.orders" 258, code := .ref 113 } }),
 (116, { cls := .type "dict", data := .dict #[dE P "__module__" 285 (.str "alikeheap.orders" 258), dE P "__firstlineno__" 289 (.int 29 288), dE P "__init__" 297 (.ref 95), dE P "above" 306 (.ref 102), dE P "is_above" 312 (.ref 107), dE P "first_above" 323 (.ref 114), dE P "__static_attributes__" 326 (.ref 115), dE P "__dict__" 328 (.ref 118), dE P "__weakref__" 330 (.ref 119), dE P "__doc__" 331 (.none)] 4 }),
 (117, { cls := .type "type", data := .cls { name := "PathOrder", bases := [.type "object"], mro := [.ref 117, .type "object"], ns := 116, qualname := "PathOrder", subclasses := [.ref 150] }, slots := #[none, none, some (.str "PathOrder" 278), some (.str "PathOrder" 286), some (.builtin "object.__new__"), some (.bool true)] }),
 (118, { cls := .type "getset_descriptor", data := .fields #[.str "__dict__" 327, .ref 117, .builtin "function.__dict__", .builtin "function.__dict__#set"] }),
 (119, { cls := .type "getset_descriptor", data := .fields #[.str "__weakref__" 329, .ref 117, .builtin "ExceptionGroup.__weakref__", .none] }),
 (125, { cls := .type "cell", data := .cell (some (.ref 150)) }),
 (136, { cls := .type "code", data := .fields #[.str "__init__" 346, .str "WeightOrder.__init__" 347, .str "/claim/cut.py" 348, .int 57 0, .int 3 0, .int 0 0, .int 0 0, .int 3 0, .ref 131, .bool true, .int 181 0, .ref 132, .none, .ref 133, .ref 134, .ref 135, .int 354 0, .int 57 0, .str "/claim/cut.py" 355] }),
 (137, { cls := .type "function", data := .func { name := "__init__", qualname := "WeightOrder.__init__", params := xP 1001, body := .stmts (xB 1001), scope := xS 1001, globals := 3, closure := [("__class__", 125)], defaults := .none, kwdefaults := .none, pyModule := .str "alikeheap.orders" 258, code := .ref 136, closureTuple := .ref 130 } }),
 (141, { cls := .type "code", data := .fields #[.str "weight" 357, .str "WeightOrder.weight" 358, .str "/claim/cut.py" 359, .int 64 0, .int 2 0, .int 0 0, .int 0 0, .int 3 0, .ref 138, .bool true, .int 181 0, .ref 139, .none, .none, .none, .ref 140, .int 360 0, .int 64 0, .str "/claim/cut.py" 361] }),
 (142, { cls := .type "function", data := .func { name := "weight", qualname := "WeightOrder.weight", params := xP 1002, body := .stmts (xB 1002), scope := xS 1002, globals := 3, closure := [], defaults := .none, kwdefaults := .none, pyModule := .str "alikeheap.orders" 258, code := .ref 141 } }),
 (146, { cls := .type "code", data := .fields #[.str "is_above" 363, .str "WeightOrder.is_above" 364, .str "/claim/cut.py" 365, .int 67 0, .int 3 0, .int 0 0, .int 0 0, .int 3 0, .ref 143, .bool true, .int 181 0, .ref 144, .none, .none, .none, .ref 145, .int 366 0, .int 67 0, .str "/claim/cut.py" 367] }),
 (147, { cls := .type "function", data := .func { name := "is_above", qualname := "WeightOrder.is_above", params := xP 1003, body := .stmts (xB 1003), scope := xS 1003, globals := 3, closure := [], defaults := .none, kwdefaults := .none, pyModule := .str "alikeheap.orders" 258, code := .ref 146 } }),
 (149, { cls := .type "dict", data := .dict #[dE P "__module__" 341 (.str "alikeheap.orders" 258), dE P "__firstlineno__" 345 (.int 55 344), dE P "__init__" 356 (.ref 137), dE P "weight" 362 (.ref 142), dE P "is_above" 368 (.ref 147), dE P "__static_attributes__" 370 (.ref 148), dE P "__doc__" 372 (.none)] 3 }),
 (150, { cls := .type "type", data := .cls { name := "WeightOrder", bases := [.ref 117], mro := [.ref 150, .ref 117, .type "object"], ns := 149, qualname := "WeightOrder" }, slots := #[some (.ref 122), none, some (.str "WeightOrder" 334), some (.str "WeightOrder" 342), some (.builtin "object.__new__"), some (.bool true)] }),
 (158, { cls := .type "code", data := .fields #[.str "turned_by" 375, .str "turned_by" 376, .str "/claim/cut.py" 377, .int 75 0, .int 3 0, .int 0 0, .int 0 0, .int 3 0, .ref 153, .bool true, .int 181 0, .ref 154, .none, .ref 155, .ref 156, .ref 157, .int 381 0, .int 75 0, .str "/claim/cut.py" 382] }),
 (159, { cls := .type "function", data := .func { name := "turned_by", qualname := "turned_by", params := xP 1100, body := .stmts (xB 1100), scope := xS 1100, globals := 3, closure := [], defaults := .none, kwdefaults := .none, pyModule := .str "alikeheap.orders" 258, code := .ref 158 } }),
 (160, { cls := .type "tuple", data := .seq #[.str "a" 386, .int 0 387] }),
 (161, { cls := .type "tuple", data := .seq #[.str "b" 388, .int 0 389] }),
 (162, { cls := .type "tuple", data := .seq #[.str "h" 390, .int 0 391] }),
 (163, { cls := .type "tuple", data := .seq #[.str "?x" 392, .int 0 393] }),
 (164, { cls := .type "tuple", data := .seq #[.str "?y" 394, .int 0 395] }),
 (165, { cls := .type "tuple", data := .seq #[.str "h" 396, .int 0 397] }),
 (166, { cls := .type "tuple", data := .seq #[.str "b" 398, .int 2 399] }),
 (167, { cls := .type "tuple", data := .seq #[.str "f" 400, .int 1 401] }),
 (168, { cls := .type "tuple", data := .seq #[.str "f" 402, .int 2 403] }),
 (169, { cls := .type "tuple", data := .seq #[.str "fb" 404, .int 1 405] }),
 (170, { cls := .type "tuple", data := .seq #[.ref 160, .ref 161, .ref 162, .ref 163, .ref 164, .ref 165, .ref 166, .ref 167, .ref 168, .ref 169] }),
 (176, { cls := .type "code", data := .fields #[.str "_law_sip" 407, .str "_law_sip" 408, .str "/claim/cut.py" 409, .int 81 0, .int 2 0, .int 0 0, .int 0 0, .int 3 0, .ref 171, .bool true, .int 181 0, .ref 172, .none, .ref 173, .ref 174, .ref 175, .int 413 0, .int 81 0, .str "/claim/cut.py" 414] }),
 (177, { cls := .type "function", data := .func { name := "_law_sip", qualname := "_law_sip", params := xP 1400, body := .stmts (xB 1400), scope := xS 1400, globals := 3, closure := [], defaults := .none, kwdefaults := .none, pyModule := .str "law_sa0018_01" 384, code := .ref 176 } }),
 (181, { cls := .type "code", data := .fields #[.str "_law_pattern" 416, .str "_law_pattern" 417, .str "/claim/cut.py" 418, .int 85 0, .int 2 0, .int 0 0, .int 0 0, .int 3 0, .ref 178, .bool true, .int 181 0, .ref 179, .none, .none, .none, .ref 180, .int 419 0, .int 85 0, .str "/claim/cut.py" 420] }),
 (182, { cls := .type "function", data := .func { name := "_law_pattern", qualname := "_law_pattern", params := xP 1500, body := .stmts (xB 1500), scope := xS 1500, globals := 3, closure := [], defaults := .none, kwdefaults := .none, pyModule := .str "law_sa0018_01" 384, code := .ref 181 } }),
 (186, { cls := .type "code", data := .fields #[.str "_law_inside" 422, .str "_law_inside" 423, .str "/claim/cut.py" 424, .int 88 0, .int 1 0, .int 0 0, .int 0 0, .int 3 0, .ref 183, .bool true, .int 181 0, .ref 184, .none, .none, .none, .ref 185, .int 425 0, .int 88 0, .str "/claim/cut.py" 426] }),
 (187, { cls := .type "function", data := .func { name := "_law_inside", qualname := "_law_inside", params := xP 1600, body := .stmts (xB 1600), scope := xS 1600, globals := 3, closure := [], defaults := .none, kwdefaults := .none, pyModule := .str "law_sa0018_01" 384, code := .ref 186 } }),
 (193, { cls := .type "code", data := .fields #[.str "_law_head" 428, .str "_law_head" 429, .str "/claim/cut.py" 430, .int 93 0, .int 2 0, .int 0 0, .int 0 0, .int 3 0, .ref 188, .bool true, .int 181 0, .ref 189, .none, .ref 190, .ref 191, .ref 192, .int 433 0, .int 93 0, .str "/claim/cut.py" 434] }),
 (194, { cls := .type "function", data := .func { name := "_law_head", qualname := "_law_head", params := xP 1700, body := .stmts (xB 1700), scope := xS 1700, globals := 3, closure := [], defaults := .none, kwdefaults := .none, pyModule := .str "law_sa0018_01" 384, code := .ref 193 } }),
 (198, { cls := .type "code", data := .fields #[.str "_law_comes" 436, .str "_law_comes" 437, .str "/claim/cut.py" 438, .int 95 0, .int 4 0, .int 0 0, .int 0 0, .int 3 0, .ref 195, .bool true, .int 181 0, .ref 196, .none, .none, .none, .ref 197, .int 439 0, .int 95 0, .str "/claim/cut.py" 440] }),
 (199, { cls := .type "function", data := .func { name := "_law_comes", qualname := "_law_comes", params := xP 1800, body := .stmts (xB 1800), scope := xS 1800, globals := 3, closure := [], defaults := .none, kwdefaults := .none, pyModule := .str "law_sa0018_01" 384, code := .ref 198 } }),
 (205, { cls := .type "code", data := .fields #[.str "_law_gathered" 442, .str "_law_gathered" 443, .str "/claim/cut.py" 444, .int 105 0, .int 2 0, .int 0 0, .int 0 0, .int 3 0, .ref 200, .bool true, .int 181 0, .ref 201, .none, .ref 202, .ref 203, .ref 204, .int 451 0, .int 105 0, .str "/claim/cut.py" 452] }),
 (206, { cls := .type "function", data := .func { name := "_law_gathered", qualname := "_law_gathered", params := xP 1900, body := .stmts (xB 1900), scope := xS 1900, globals := 3, closure := [], defaults := .none, kwdefaults := .none, pyModule := .str "law_sa0018_01" 384, code := .ref 205 } }),
 (210, { cls := .type "code", data := .fields #[.str "_law_names" 454, .str "_law_names" 455, .str "/claim/cut.py" 456, .int 114 0, .int 1 0, .int 0 0, .int 0 0, .int 3 0, .ref 207, .bool true, .int 181 0, .ref 208, .none, .none, .none, .ref 209, .int 457 0, .int 114 0, .str "/claim/cut.py" 458] }),
 (211, { cls := .type "function", data := .func { name := "_law_names", qualname := "_law_names", params := xP 2000, body := .stmts (xB 2000), scope := xS 2000, globals := 3, closure := [], defaults := .none, kwdefaults := .none, pyModule := .str "law_sa0018_01" 384, code := .ref 210 } }),
 (215, { cls := .type "code", data := .fields #[.str "_law_is_heavier" 460, .str "_law_is_heavier" 461, .str "/claim/cut.py" 462, .int 116 0, .int 3 0, .int 0 0, .int 0 0, .int 3 0, .ref 212, .bool true, .int 181 0, .ref 213, .none, .none, .none, .ref 214, .int 463 0, .int 116 0, .str "/claim/cut.py" 464] }),
 (216, { cls := .type "function", data := .func { name := "_law_is_heavier", qualname := "_law_is_heavier", params := xP 2100, body := .stmts (xB 2100), scope := xS 2100, globals := 3, closure := [], defaults := .none, kwdefaults := .none, pyModule := .str "law_sa0018_01" 384, code := .ref 215 } }),
 (220, { cls := .type "code", data := .fields #[.str "law" 466, .str "law" 467, .str "/claim/cut.py" 468, .int 125 0, .int 1 0, .int 0 0, .int 0 0, .int 3 0, .ref 217, .bool true, .int 181 0, .ref 218, .none, .none, .none, .ref 219, .int 469 0, .int 125 0, .str "/claim/cut.py" 470] }),
 (221, { cls := .type "function", data := .func { name := "law", qualname := "law", params := xP 2200, body := .stmts (xB 2200), scope := xS 2200, globals := 3, closure := [], defaults := .none, kwdefaults := .none, pyModule := .str "law_sa0018_01" 384, code := .ref 220 } })]
noncomputable def KA : List Addr := [2, 3, 61, 62, 66, 67, 73, 74, 80, 81, 94, 95, 101, 102, 106, 107, 113, 114, 116, 117, 118, 119, 125, 136, 137, 141, 142, 146, 147, 149, 150, 158, 159, 160, 161, 162, 163, 164, 165, 166, 167, 168, 169, 170, 176, 177, 181, 182, 186, 187, 193, 194, 198, 199, 205, 206, 210, 211, 215, 216, 220, 221]
noncomputable def vw : Program := view Challenge.pw_sa0018_01 [22]
noncomputable def lse : List Str := ["HeapError", "RuleFault", "is_variable", "parts", "place_of_op", "counted", "PathOrder", "WeightOrder", "turned_by", "_law_heads", "_law_sip", "_law_pattern", "_law_inside", "_law_head", "_law_comes", "_law_gathered", "_law_names", "_law_is_heavier"]
theorem ka_ok (P : Params) : KA = (KK P).map (·.1) := by kernel_rfl
theorem left_ok : LeftO Challenge.pw_sa0018_01 vw lse (fun _ => true) (Hook.obs (kHook KK KA ka_ok)) (Hook.val (kHook KK KA ka_ok)) 3348 := fun w => by
 unfold openEnds fencedOpening topFrom
 rw [PySem.W.Fast.te10274390034422433532, PySem.W.Fast.te14289696077712309145, PySem.W.Fast.te1435165496053646825, PySem.W.Fast.te14082659384304107361, PySem.W.Fast.te4187177175401517315, PySem.W.Fast.te14364793385576792824]
 kernel_rfl
end Mine
end
section
namespace Mine
open PySem PySem.W PyProof.Rows
noncomputable def objAt (K : Frag) (a : Addr) : Obj := (K.lookup a).getD default
noncomputable def fdAt (K : Frag) (a : Addr) : FuncData := match (objAt K a).data with
 | .func fd => fd
 | _ => default
noncomputable def refOf : Value -> Addr
 | .ref a => a
 | _ => 0
noncomputable def cdAt (K : Frag) (a : Addr) : Addr := refOf (fdAt K a).code
noncomputable def flAt (K : Frag) (a : Addr) : Array Value := match (objAt K (cdAt K a)).data with
 | .fields vs => vs
 | _ => #[]
noncomputable def tokAt (K : Frag) (a : Addr) : Tok := match ((flAt K a)[1]? : Option Value) with
 | some (.str _ t) => t
 | _ => 0
noncomputable def BindK (fd : FuncData) (fi : FnI) : Nat -> Prop
 | 1 => ∀ a, bindArgs fd ⟨[a], []⟩ = pure (fi.params.zip [a])
 | 2 => ∀ a b, bindArgs fd ⟨[a, b], []⟩ = pure (fi.params.zip [a, b])
 | 3 => ∀ a b c, bindArgs fd ⟨[a, b, c], []⟩ = pure (fi.params.zip [a, b, c])
 | 4 => ∀ a b c d, bindArgs fd ⟨[a, b, c, d], []⟩ = pure (fi.params.zip [a, b, c, d])
 | _ => False
theorem bindK_all {fd : FuncData} {fi : FnI} {k : Nat} (h : BindK fd fi k) (vals : List Value) (hv : vals.length = k) : bindArgs fd ⟨vals, []⟩ = pure (fi.params.zip vals) := by
 subst hv
 cases vals with
 | nil => exact False.elim h
 | cons a l =>
 cases l with
 | nil => exact h a
 | cons b l =>
 cases l with
 | nil => exact h a b
 | cons c l =>
 cases l with
 | nil => exact h a b c
 | cons d l =>
 cases l with
 | nil => exact h a b c d
 | cons _ _ => exact False.elim h
theorem fnok {base : Heap} {K : Frag} (a : Addr) (fi : FnI) (hK : ∀ a o, K.lookup a = some o -> base.get? a = some o) (k : Nat) (h8 : BindK (fdAt K a) fi k)
   (h1 : K.lookup a = some (objAt K a) := by kernel_rfl) (h2 : (objAt K a).data = .func (fdAt K a) := by kernel_rfl) (h3 : (fdAt K a).code = .ref (cdAt K a) := by kernel_rfl) (h4 : K.lookup (cdAt K a) = some (objAt K (cdAt K a)) := by kernel_rfl) (h5 : (objAt K (cdAt K a)).data = .fields (flAt K a) := by kernel_rfl)
   (h6 : (flAt K a)[1]? = some (.str (fdAt K a).qualname (tokAt K a)) := by kernel_rfl) (h7 : (fdAt K a).body = .stmts fi.body := by kernel_rfl)
   (hk : fi.params.length = k := by rfl) (h9 : (fdAt K a).closure = [] := by kernel_rfl) (h10 : (fdAt K a).scope = fi.sc := by kernel_rfl) (h11 : (fdAt K a).globals = mainGlobals := by kernel_rfl) (h12 : (fdAt K a).builtins = builtinsNs := by kernel_rfl)
   (h13 : (!fi.sc.isCoroutine && !fi.sc.isGenerator && fi.sc.kind == .function && distinct fi.params && (fi.sc.names.lookup ("__classdict__" : Str)).isNone && distinct (fi.sc.names.map (·.1)) &&
     fi.params.all (fun x => fi.sc.names.lookup x == some .local || fi.sc.names.lookup x == some .cell)) = true := by decide +kernel) : ∃ o, base.get? a = some o /\ FnOk base fi o := by
 simp only [Bool.and_eq_true, Bool.not_eq_true', beq_iff_eq, List.all_eq_true, Bool.or_eq_true] at h13
 obtain ⟨⟨⟨⟨⟨⟨g1, g2⟩, g3⟩, g4⟩, g5⟩, g6⟩, g7⟩ := h13
 exact ⟨_, hK _ _ h1, _, h2, ⟨_, _, _, _, h3, hK _ _ h4, h5, h6⟩, h7, (fun vals hv => bindK_all h8 vals (hv.trans hk)), h9, h10, h11, h12, g1, g2, g3, g4, g5, distinct_nodup g6, g7⟩
noncomputable def fiAt (i : Nat) : FnI := (nthFn i).getD ⟨[], [], default⟩
noncomputable def meAt (i j : Nat) : FnI := (nthMeth i j).getD ⟨[], [], default⟩
section
variable {base : Heap} {p : Params} (hK : ∀ a o, (KK p).lookup a = some o -> base.get? a = some o)
include hK
theorem t62 : ∃ o, base.get? 62 = some o /\ FnOk base (fiAt 4) o := fnok _ _ hK 1 (fun a => by kernel_rfl)
theorem t67 : ∃ o, base.get? 67 = some o /\ FnOk base (fiAt 5) o := fnok _ _ hK 1 (fun a => by kernel_rfl)
theorem t74 : ∃ o, base.get? 74 = some o /\ FnOk base (fiAt 7) o := fnok _ _ hK 2 (fun a b => by kernel_rfl)
theorem t81 : ∃ o, base.get? 81 = some o /\ FnOk base (fiAt 8) o := fnok _ _ hK 1 (fun a => by kernel_rfl)
theorem t95 : ∃ o, base.get? 95 = some o /\ FnOk base (meAt 9 0) o := fnok _ _ hK 2 (fun a b => by kernel_rfl)
theorem t102 : ∃ o, base.get? 102 = some o /\ FnOk base (meAt 9 1) o := fnok _ _ hK 3 (fun a b c => by kernel_rfl)
theorem t107 : ∃ o, base.get? 107 = some o /\ FnOk base (meAt 9 2) o := fnok _ _ hK 3 (fun a b c => by kernel_rfl)
theorem t114 : ∃ o, base.get? 114 = some o /\ FnOk base (meAt 9 3) o := fnok _ _ hK 3 (fun a b c => by kernel_rfl)
theorem t142 : ∃ o, base.get? 142 = some o /\ FnOk base (meAt 10 1) o := fnok _ _ hK 2 (fun a b => by kernel_rfl)
theorem t147 : ∃ o, base.get? 147 = some o /\ FnOk base (meAt 10 2) o := fnok _ _ hK 3 (fun a b c => by kernel_rfl)
theorem t159 : ∃ o, base.get? 159 = some o /\ FnOk base (fiAt 11) o := fnok _ _ hK 3 (fun a b c => by kernel_rfl)
theorem t177 : ∃ o, base.get? 177 = some o /\ FnOk base (fiAt 14) o := fnok _ _ hK 2 (fun a b => by kernel_rfl)
theorem t182 : ∃ o, base.get? 182 = some o /\ FnOk base (fiAt 15) o := fnok _ _ hK 2 (fun a b => by kernel_rfl)
theorem t187 : ∃ o, base.get? 187 = some o /\ FnOk base (fiAt 16) o := fnok _ _ hK 1 (fun a => by kernel_rfl)
theorem t194 : ∃ o, base.get? 194 = some o /\ FnOk base (fiAt 17) o := fnok _ _ hK 2 (fun a b => by kernel_rfl)
theorem t199 : ∃ o, base.get? 199 = some o /\ FnOk base (fiAt 18) o := fnok _ _ hK 4 (fun a b c d => by kernel_rfl)
theorem t206 : ∃ o, base.get? 206 = some o /\ FnOk base (fiAt 19) o := fnok _ _ hK 2 (fun a b => by kernel_rfl)
theorem t211 : ∃ o, base.get? 211 = some o /\ FnOk base (fiAt 20) o := fnok _ _ hK 1 (fun a => by kernel_rfl)
theorem t216 : ∃ o, base.get? 216 = some o /\ FnOk base (fiAt 21) o := fnok _ _ hK 3 (fun a b c => by kernel_rfl)
theorem t221 : ∃ o, base.get? 221 = some o /\ FnOk base (fiAt 22) o := fnok _ _ hK 1 (fun a => by kernel_rfl)
end
noncomputable def fiQ (q : Nat × Option Nat) : FnI := match q.2 with
 | none => fiAt q.1
 | some j => meAt q.1 j
theorem lookup_mem {α β : Type} [BEq α] [LawfulBEq α] {a : α} {o : β} : ∀ {K : List (α × β)}, K.lookup a = some o -> (a, o) ∈ K
 | [], h => by exact no_some h
 | (b, x) :: r, h => by
   rw [List.lookup_cons] at h
   cases hb : a == b with
   | true => rw [hb] at h; (refine inj1 h ?_; clear h; rintro rfl); rw [beq_iff_eq.mp hb]; exact List.mem_cons_self
   | false => rw [hb] at h; exact List.mem_cons_of_mem _ (lookup_mem h)
theorem tab_ok {base : Heap} {p : Params} (hK : ∀ a o, (KK p).lookup a = some o -> base.get? a = some o) : ∀ q ∈ fnTab, ∃ o, base.get? q.1 = some o /\ FnOk base (fiQ q.2) o := by
 have c {q : Addr × Nat × Option Nat} {l : List (Addr × Nat × Option Nat)} (h : ∃ o, base.get? q.1 = some o /\ FnOk base (fiQ q.2) o) (t : ∀ q ∈ l, ∃ o, base.get? q.1 = some o /\ FnOk base (fiQ q.2) o) : ∀ x ∈ q :: l, ∃ o, base.get? x.1 = some o /\ FnOk base (fiQ x.2) o :=
   List.forall_mem_cons.mpr ⟨h, t⟩
 exact c (t62 hK) (c (t67 hK) (c (t74 hK) (c (t81 hK) (c (t95 hK) (c (t102 hK) (c (t107 hK) (c (t114 hK) (c (t142 hK) (c (t147 hK) (c (t159 hK) (c (t177 hK) (c (t182 hK) (c (t187 hK) (c (t194 hK) (c (t199 hK) (c (t206 hK) (c (t211 hK) (c (t216 hK) (c (t221 hK) fun _ h => (List.not_mem_nil h).elim)))))))))))))))))))
theorem fns_ok {base : Heap} {p : Params} (hK : ∀ a o, (KK p).lookup a = some o -> base.get? a = some o) {a : Addr} {fi : FnI} (h : fnT a = some fi) : ∃ o, base.get? a = some o /\ FnOk base fi o := by
 obtain ⟨q, h1, h2⟩ := Option.bind_eq_some_iff.mp h
 have hf : fi = fiQ q := by
   obtain ⟨i, j⟩ := q
   cases j with
   | none => show fi = (nthFn i).getD _; rw [show nthFn i = some fi from h2]; rfl
   | some j => show fi = (nthMeth i j).getD _; rw [show nthMeth i j = some fi from h2]; rfl
 rw [hf]
 exact tab_ok hK _ (lookup_mem h1)
end Mine
end
section
namespace Mine
open PySem PySem.W PyProof.Rows
noncomputable def restrict (h : Heap) (L : List Addr) : Heap := ⟨((List.range h.objs.size).map fun b => if b ∈ L then (h.get? b).getD freedObj else freedObj).toArray, {}⟩
theorem get_restrict (h : Heap) (L : List Addr) (b : Addr) : (restrict h L).get? b = if b ∈ L then h.get? b else none := by
 apply Option.ext
 intro o
 rw [get_some]
 have e : ∀ b, (restrict h L).objs[b]? = if b < h.objs.size then some (if b ∈ L then (h.get? b).getD freedObj else freedObj) else none := by
   intro b
   unfold restrict
   simp only [List.getElem?_toArray, List.getElem?_map]
   by_cases hb : b < h.objs.size
   · rw [List.getElem?_range hb, if_pos hb]; rfl
   · rw [if_neg hb, List.getElem?_eq_none (by simpa using hb)]; rfl
 rw [e]
 constructor
 · rintro ⟨h1, h2⟩
   split at h1
   · simp only [Option.some.injEq] at h1
     split at h1
     · rename_i hb
       rw [if_pos hb]
       cases hg : h.get? b with
       | none => rw [hg] at h1; simp at h1; subst h1; simp [freedObj, Obj.isFreed] at h2
       | some x => rw [hg] at h1; simpa using h1
     · subst h1; simp [freedObj, Obj.isFreed] at h2
   · exact no_some h1
 · intro h1
   refine if_some h1 ?_; clear h1; intro hb h1
   have hlt := Heap.lt_size h1
   rw [if_pos hlt, if_pos hb, h1]
   exact ⟨rfl, (get_some.mp h1).2⟩
noncomputable def plainB (o : Obj) : Bool := o.cls != .type "list" || (o.dict.isNone && o.slots.isEmpty)
theorem plainB_of {o : Obj} (h : plainB o = true) : Plain o := fun hc _ => by
 unfold plainB at h
 rw [hc] at h
 have h : (o.dict.isNone && o.slots.isEmpty) = true := h
 exact ⟨Option.isNone_iff_eq_none.mp (and_t h).1, Array.isEmpty_iff.mp (and_t h).2⟩
noncomputable def rowsB (f : Value -> PyData -> Bool) : List Value -> List PyData -> Bool
 | [], ds => ds.isEmpty
 | v :: vs, ds => match ds with
   | d :: ds => f v d && rowsB f vs ds
   | [] => false
noncomputable def flatB (v : Value) (d : PyData) : Bool := match d with
   | .int j => (match v with
     | .int i _ => i == j
     | _ => false)
   | .str y => (match v with
     | .str x _ => x == y
     | _ => false)
   | _ => false
noncomputable def readB (K : Frag) : Nat -> Value -> PyData -> Bool
 | 0, v, d => flatB v d
 | n + 1, v, d => (match d with
   | .tuple ds => (match v with
     | .ref a => (match K.lookup a with
       | some o => o.cls == .type "tuple" && (match o.data with
         | .seq vs _ => rowsB (readB K n) vs.toList ds
         | _ => false)
       | none => false)
     | _ => false)
   | _ => flatB v d)
theorem rowsB_ok {h : Heap} {f : Value -> PyData -> Bool} (hv : ∀ v d, f v d = true -> ∃ as, Reads h v d as) : ∀ vs ds, rowsB f vs ds = true -> ∃ as, ReadsAll h vs ds as := by
 intro vs
 induction vs with
 | nil =>
   intro ds e
   cases ds with
   | nil => exact ⟨_, .nil⟩
   | cons _ _ => exact no_ft e
 | cons v vs ih =>
   intro ds e
   cases ds with
   | nil => exact no_ft e
   | cons d ds => exact (hv v d (and_t e).1).elim fun _ h1 => (ih ds (and_t e).2).elim fun _ h2 => ⟨_, .cons h1 h2⟩
theorem readB_ok {K : Frag} {h : Heap} (hK : ∀ a o, K.lookup a = some o -> h.get? a = some o) (n : Nat) : ∀ v d, readB K n v d = true -> ∃ as, Reads h v d as := by
 have z : ∀ v d, flatB v d = true -> ∃ as, Reads h v d as := by
   intro v d e
   cases d with
   | int j =>
     cases v with
     | int i t => exact (show i = j from beq_iff_eq.mp e) ▸ ⟨_, .int _ _⟩
     | _ => exact no_ft e
   | str j =>
     cases v with
     | str i t => exact (show i = j from beq_iff_eq.mp e) ▸ ⟨_, .str _ _⟩
     | _ => exact no_ft e
   | _ => exact no_ft e
 induction n with
 | zero => exact z
 | succ n ih =>
   intro v d e
   cases d with
   | tuple ds =>
     cases v with
     | ref a =>
       dsimp only [readB] at e
       cases ho : K.lookup a with
       | none => rw [ho] at e; exact no_ft e
       | some o =>
         rw [ho] at e
         have hc := (and_t e).1
         have e := (and_t e).2
         cases hd : o.data with
         | seq vs k => rw [hd] at e; exact (rowsB_ok ih _ _ e).elim fun as ra => ⟨_, .tuple (hK _ _ ho) (beq_iff_eq.mp hc) hd ra⟩
         | _ => rw [hd] at e; exact no_ft e
     | _ => exact no_ft e
   | _ => exact z v _ e
noncomputable def chkGlob (K : Frag) (q : Str × V) : Bool := match q.2 with
 | .con v => nsIn K mainGlobals q.1 == some (some v) || (nsIn K mainGlobals q.1 == some none && bootBuiltins q.1 == some v && q.1 != ("__name__" : Str))
 | .d x => (match nsIn K mainGlobals q.1 with
   | some (some v) => readB K 5 v x
   | _ => false)
 | _ => false
theorem glob_chk (p : Params) : globT.all (chkGlob (KK p)) = true := by kernel_rfl
theorem plain_chk (p : Params) : (KK p).all (fun q => plainB q.2) = true := by kernel_rfl
noncomputable def fnAddrs : List Addr := [117, 150] ++ fnTab.map (·.1)
theorem keep_chk (p : Params) : fnAddrs.all (fun a => keepIn (KK p) (.ref a)) = true := by kernel_rfl
theorem fn_mem {a : Addr} (h : (PP.fn a).isSome = true \/ (PP.ctor a).isSome = true) : a ∈ fnAddrs := by
 unfold fnAddrs
 rw [List.mem_append]
 rcases h with h | h
 · obtain ⟨fi, h⟩ := Option.isSome_iff_exists.mp h
   obtain ⟨q, h1, _⟩ := Option.bind_eq_some_iff.mp (show (fnTab.lookup a).bind fnQ = some fi from h)
   exact .inr (List.mem_map.mpr ⟨_, lookup_mem h1, rfl⟩)
 · left
   by_cases h1 : a = 117
   · rw [h1]; exact List.mem_cons_self ..
   by_cases h2 : a = 150
   · rw [h2]; exact List.mem_cons_of_mem _ (List.mem_cons_self ..)
   have h : (ctorT a).isSome = true := h
   unfold ctorT at h
   rw [if_neg (by simpa using h1), if_neg (by simpa using h2)] at h
   exact no_ft h
theorem lookup_of_mem_fst {a : Addr} : ∀ {K : Frag}, a ∈ K.map (·.1) -> ∃ o, K.lookup a = some o
 | [], h => by simp at h
 | (b, x) :: r, h => by
   rw [List.lookup_cons]
   cases hb : a == b with
   | true => exact ⟨x, rfl⟩
   | false =>
     rw [List.map_cons] at h
     rcases List.mem_cons.mp h with e | h
     · rw [e] at hb; simp at hb
     · exact lookup_of_mem_fst h
noncomputable def baseL (p : Params) (sa : Addr) : List Addr := builtinsNs :: cStatics :: sa :: (KK p).map (·.1)
section
variable {w : World} {h : Heap} {mg mb : Str -> Option Value} {sa : Addr} {so : Obj} {prog : Program}
theorem base_K (KX : (KK w.params).In h) : ∀ a o, (KK w.params).lookup a = some o -> (restrict h (baseL w.params sa)).get? a = some o := fun a o e => by
 have hm : a ∈ baseL w.params sa := List.mem_cons_of_mem _ (List.mem_cons_of_mem _ (List.mem_cons_of_mem _ (List.mem_map.mpr ⟨_, lookup_mem e, rfl⟩)))
 rw [get_restrict, if_pos hm]
 exact KX a o e
theorem base_sub (KX : (KK w.params).In h) : Sub (restrict h (baseL w.params sa)) h := fun b o e => by
 rw [get_restrict] at e
 split at e
 · exact e
 · exact no_some e
theorem base_ns {a : Addr} {m : Str -> Option Value} (hn : h.Ns a m) (ha : a ∈ baseL w.params sa) : (restrict h (baseL w.params sa)).Ns a m :=
 hn.at' fun o e => by rw [get_restrict, if_pos ha]; exact e
theorem ns_plain {a : Addr} {m : Str -> Option Value} {o : Obj} (hn : h.Ns a m) (ho : h.get? a = some o) : Plain o := by
 rintro _ ⟨vs, n, hd⟩
 obtain ⟨o', es, ep, ho', hd', _⟩ := hn
 rw [ho] at ho'; (refine inj1 ho' ?_; clear ho'; rintro rfl)
 rw [hd] at hd'; cases hd'
theorem base_plain (KX : (KK w.params).In h) (hb : h.Ns builtinsNs mb) (hc : ∃ mc, h.Ns cStatics mc) (hs : h.get? sa = some so) (hp : Plain so) : ∀ b o, (restrict h (baseL w.params sa)).get? b = some o -> Plain o := by
 intro b o e
 rw [get_restrict] at e
 refine if_some e ?_; clear e; intro hm e
 rcases List.mem_cons.mp hm with rfl | hm
 · exact ns_plain hb e
 · rcases List.mem_cons.mp hm with rfl | hm
   · obtain ⟨mc, hc⟩ := hc; exact ns_plain hc e
   · rcases List.mem_cons.mp hm with rfl | hm
     · rw [hs] at e; (refine inj1 e ?_; clear e; rintro rfl); exact hp
     · obtain ⟨o', ho'⟩ := lookup_of_mem_fst hm
       have := KX b o' ho'
       rw [e] at this; (refine inj1 this ?_; clear this; rintro rfl)
       exact plainB_of (List.all_eq_true.mp (plain_chk w.params) _ (lookup_mem ho'))
theorem baseOk (KX : (KK w.params).In h) (hg : h.Ns mainGlobals mg) (hb : h.Ns builtinsNs mb) (hboot : ∀ x : Str, x ≠ "__name__" -> mb x = bootBuiltins x) (hl : h.NoLimit) : BaseOk PP prog w (restrict h (baseL w.params sa)) where
 globs := by
   have hmain : mainGlobals ∈ baseL w.params sa := by
     refine List.mem_cons_of_mem _ (List.mem_cons_of_mem _ (List.mem_cons_of_mem _ ?_))
     have : ∃ o, (KK w.params).lookup mainGlobals = some o := ⟨objAt (KK w.params) mainGlobals, by kernel_rfl⟩
     obtain ⟨o, ho⟩ := this
     exact List.mem_map.mpr ⟨_, lookup_mem ho, rfl⟩
   refine ⟨mg, mb, base_ns hg hmain, base_ns hb (by unfold baseL; exact List.mem_cons_self), fun x V hx => ?_⟩
   have hm : (x, V) ∈ globT := mem_of_lookup hx
   have hc := List.all_eq_true.mp (glob_chk w.params) _ hm
   cases V with
   | con v =>
     dsimp only [chkGlob] at hc
     simp only [Bool.or_eq_true, Bool.and_eq_true, beq_iff_eq, bne_iff_ne, ne_eq] at hc
     rcases hc with hc | ⟨⟨hc1, hc2⟩, hc3⟩
     · exact ⟨v, .inl (mg_of KX hg hc), .con v⟩
     · exact ⟨v, .inr ⟨mg_none_of KX hg hc1, (hboot x hc3).trans hc2⟩, .con v⟩
   | d y =>
     dsimp only [chkGlob] at hc
     cases hv : nsIn (KK w.params) mainGlobals x with
     | none => rw [hv] at hc; exact no_ft hc
     | some o =>
       rw [hv] at hc
       cases o with
       | none => exact no_ft hc
       | some v => exact (readB_ok (base_K (sa := sa) KX) 5 _ _ hc).elim fun as r => ⟨v, .inl (mg_of KX hg hv), .d r⟩
   | _ => exact no_ft hc
 nolimit := by
   obtain ⟨mc, hn, e⟩ := hl
   exact ⟨mc, base_ns hn (by unfold baseL; exact List.mem_cons_of_mem _ List.mem_cons_self), e⟩
 mods := ⟨62, objAt (KK w.params) 62, base_K KX _ _ (by kernel_rfl), by decide⟩
 fns := fun a fi hf => fns_ok (base_K KX) hf
 keeps := fun a ha h' hsub => by
   have hm := fn_mem ha
   obtain ⟨k, hk, lk⟩ := looks_keep (M := model prog w) (h := h') (List.all_eq_true.mp (keep_chk w.params) _ hm) (fun b o e => hsub _ _ (base_K (sa := sa) KX b o e))
   exact ⟨k, hk.elim .inl fun q => .inr (.inl q), lk⟩
end
end Mine
end
section
namespace Mine
open PySem PySem.W PyProof.Rows
theorem meth_cases {C : Addr} {name : Str} {f : Addr} (h : methT C name = some f) : (C = 117 \/ C = 150) /\
   ((name = "above" /\ f = 102) \/ (name = "first_above" /\ f = 114) \/ (name = "is_above" /\ ((C = 117 /\ f = 107) \/ (C = 150 /\ f = 147))) \/ (name = "weight" /\ C = 150 /\ f = 142)) := by
 unfold methT at h
 refine if_no h ?_; clear h; intro hC h
 have hC : C = 117 \/ C = 150 := by
   by_cases q : C = 117
   · exact .inl q
   · exact .inr ((by simpa using hC : ¬C = 117 -> C = 150) q)
 refine ⟨hC, ?_⟩
 split at h
 · rename_i q; (refine inj1 h ?_; clear h; rintro rfl); exact .inl ⟨beq_iff_eq.mp q, rfl⟩
 · split at h
   · rename_i q; (refine inj1 h ?_; clear h; rintro rfl); exact .inr (.inl ⟨beq_iff_eq.mp q, rfl⟩)
   · split at h
     · rename_i q
       rcases hC with rfl | rfl
       · (refine inj1 h ?_; clear h; rintro rfl); exact .inr (.inr (.inl ⟨beq_iff_eq.mp q, .inl ⟨rfl, rfl⟩⟩))
       · (refine inj1 h ?_; clear h; rintro rfl); exact .inr (.inr (.inl ⟨beq_iff_eq.mp q, .inr ⟨rfl, rfl⟩⟩))
     · refine if_some h ?_; clear h; intro q h
       rcases hC with rfl | rfl
       · exact no_some h
       · (refine inj1 h ?_; clear h; rintro rfl); exact .inr (.inr (.inr ⟨beq_iff_eq.mp q, rfl, rfl⟩))
theorem find_meth (p : Params) {C : Addr} {name : Str} {f : Addr} (h : methT C name = some f) :
   findIn (KK p) (.ref C) name = some (some (.ref f)) /\ typeIn (KK p) (.ref f) = some (.type "function") /\ findIn (KK p) (.ref C) "__getattribute__" = some (some (.builtin "object.__getattribute__")) /\ findIn (KK p) (.ref C) "__getattr__" = some none := by
 obtain ⟨hC, hn⟩ := meth_cases h
 rcases hn with ⟨rfl, rfl⟩ | ⟨rfl, rfl⟩ | ⟨rfl, ⟨rfl, rfl⟩ | ⟨rfl, rfl⟩⟩ | ⟨rfl, rfl, rfl⟩
 · rcases hC with rfl | rfl <;> exact ⟨by kernel_rfl, by kernel_rfl, by kernel_rfl, by kernel_rfl⟩
 · rcases hC with rfl | rfl <;> exact ⟨by kernel_rfl, by kernel_rfl, by kernel_rfl, by kernel_rfl⟩
 · exact ⟨by kernel_rfl, by kernel_rfl, by kernel_rfl, by kernel_rfl⟩
 · exact ⟨by kernel_rfl, by kernel_rfl, by kernel_rfl, by kernel_rfl⟩
 · exact ⟨by kernel_rfl, by kernel_rfl, by kernel_rfl, by kernel_rfl⟩
theorem find_attr (p : Params) {C : Addr} {name : Str} (hC : (C == 117 || C == 150) = true) (hn : (name == kRanks || name == kKnown || name == kWeights) = true) :
   findIn (KK p) (.ref C) name = some none /\ hasDictIn (KK p) C = true /\ findIn (KK p) (.ref C) "__getattribute__" = some (some (.builtin "object.__getattribute__")) /\
     findIn (KK p) (.ref C) "__setattr__" = some (some (.builtin "object.__setattr__")) /\ plainOver (KK p) C = true := by
 have hC : C = 117 \/ C = 150 := by simpa using hC
 have hn : name = kRanks \/ name = kKnown \/ name = kWeights := by simpa [or_assoc] using hn
 rcases hC with rfl | rfl <;> rcases hn with rfl | rfl | rfl <;> exact ⟨by kernel_rfl, by kernel_rfl, by kernel_rfl, by kernel_rfl, by kernel_rfl⟩
section
variable {K : Frag} {prog : Program} {w : World} {A : Around} {s : Shared}
theorem inst_of {x C dx : Addr} {es : List DictEntry} {n : Nat} (h1 : s.heap.get? x = some (instObj C dx)) (h2 : s.heap.get? dx = some (dictOf es n)) : InstAt s.heap x (instObj C dx) C (some (dictOf es n)) := ⟨h1, rfl, rfl, h2⟩
theorem putL_new {name : Str} {hsh : Int} {key v : Value} : ∀ {es : List DictEntry}, es.any (·.key.isStr name) = false -> putL name hsh key v es = es ++ [⟨hsh, key, v⟩]
 | [], _ => rfl
 | e :: r, h => by
   simp only [List.any_cons, Bool.or_eq_false_iff] at h
   unfold putL
   rw [h.1, putL_new h.2]; simp
theorem getL_none {name : Str} {es : List DictEntry} (h : getL name es = some none) : es.any (·.key.isStr name) = false /\ es.any (·.refKey) = false := by
 unfold getL at h
 split at h
 · cases h
 · rename_i hf
   rw [List.find?_eq_none] at hf
   refine if_no h ?_; clear h; intro hr h
   refine ⟨?_, by simpa using hr⟩
   rw [List.any_eq_false]
   exact fun x hx => by simpa using hf x hx
theorem osa_new {x C dx : Addr} {name : Str} {tk : Tok} {v : Value} {es : List DictEntry} {n : Nat} {R : Result -> Shared -> Prop} (X : K.In s.heap) (h1 : s.heap.get? x = some (instObj C dx)) (h2 : s.heap.get? dx = some (dictOf es n)) (hf : findIn K (.ref C) name = some none)
   (hd : hasDictIn K C = true) (hp : plainOver K C = true) (hg : getL name es = some none) (hz : es.length <= 10)
   (hq : ∀ h' e n' t k, e.key = .str name t -> e.val = v -> h'.get? dx = some (dictOf (es ++ [e]) n') -> Heap.SameBut dx s.heap h' -> R (.ok (.ret .none)) { s with heap := h', toks := k }) :
   codeAny (model prog w) A (.call (.builtin "object.__setattr__") ⟨[.ref x, .str name tk, v], []⟩) R s := by
 have I := inst_of h1 h2
 refine osa_open (r := none) X I hp (by unfold takerIn; rw [hf]; rfl) fun b => ?_
 obtain ⟨cd, hc, hd'⟩ := any_some hd
 obtain ⟨g1, g2⟩ := getL_none hg
 have D' : (s.heap.update dx (Obj.putName name (PyData.keyHash w.params name) (.str name s.toks) v)).get? dx = some (dictOf (es ++ [⟨PyData.keyHash w.params name, .str name s.toks, v⟩]) (putN name es n)) := by
   rw [Heap.get?_update_self _ h2 (by rw [putName_dict]; rfl), putName_dict, putL_new g1]
 refine wpAny_bind (wpAny_pure (wpAny_bind (wpAny_bind (wpAny_loadPart h1 (wpAny_bind ((looks_clsIn X hc).here ?_))))))
 rw [hd']
 refine wpAny_pure (a := some dx) (wpAny_bind (wpAny_pure (wpAny_bind ?_)))
 unfold nsSet
 refine wpAny_bind (wpAny_bind (wpAny_askSetting (wpAny_pure (wpAny_bind (wpAny_mkText (wpAny_bind (wpAny_loadPart h2 ?_)))))))
 dsimp only
 have c : (!es.toArray.any (·.key.isStr name) && es.toArray.any (·.refKey)) = false := by
   rw [<- Array.any_toList, <- Array.any_toList, g1, g2]; rfl
 rw [aRefKeyMayBeTheName_at, c]
 refine wpAny_updatePart h2 ?_
 refine wpAny_bind (wpAny_lookBehind D' (pastItsLine_dict (by rw [List.size_toArray, sizeLine_eq]; simp; omega)) ?_)
 exact wpAny_pure (hq _ ⟨_, .str name s.toks, v⟩ _ s.toks _ rfl rfl D' (Heap.SameBut.update ..))
theorem set_new {x C dx : Addr} {name : Str} {v : Value} {es : List DictEntry} {n : Nat} {Q : Unit -> Shared -> Prop} {E : Value -> Shared -> Prop} (X : K.In s.heap) (h1 : s.heap.get? x = some (instObj C dx)) (h2 : s.heap.get? dx = some (dictOf es n)) (hf : findIn K (.ref C) name = some none)
   (hd : hasDictIn K C = true) (hs : findIn K (.ref C) "__setattr__" = some (some (.builtin "object.__setattr__"))) (hp : plainOver K C = true) (hg : getL name es = some none) (hz : es.length <= 10)
   (hq : ∀ h' e n' t k, e.key = .str name t -> e.val = v -> h'.get? dx = some (dictOf (es ++ [e]) n') -> Heap.SameBut dx s.heap h' -> Q () { s with heap := h', toks := k }) :
   wpAny (model prog w) A (setAttr (.ref x) name v) Q E s :=
 set_plain X (inst_of h1 h2) hs (osa_new (s := { s with toks := s.toks + 1 }) X h1 h2 hf hd hp hg hz hq)
end
noncomputable def PP0 : Par := { PP with ctor := fun _ => none }
section
variable {w : World} {h : Heap} {mg mb : Str -> Option Value} {sa : Addr} {so : Obj} {prog : Program}
theorem base0 (B : BaseOk PP prog w (restrict h (baseL w.params sa))) : BaseOk PP0 prog w (restrict h (baseL w.params sa)) where
 globs := B.globs
 nolimit := B.nolimit
 mods := B.mods
 fns := B.fns
 keeps := fun a ha => B.keeps a (ha.elim .inl fun q => by exact no_ft q)
theorem cls_meth (KX : (KK w.params).In h) {A : Around} {s : Shared} {Q : Value × List Value -> Shared -> Prop} {pl : Sem Bool} {C x dx : Addr} {name : Str} {f : Addr} {es : List DictEntry} {n : Nat} (hm : methT C name = some f) (hs : Sub (restrict h (baseL w.params sa)) s.heap)
   (h1 : s.heap.get? x = some (instObj C dx)) (h2 : s.heap.get? dx = some (dictOf es n)) (hg : getL name es = some none) (hq : Q (.ref f, [.ref x]) s) : wpAny (model prog w) A (getMethod (.ref x) name pl) Q no s := by
 have X : (KK w.params).In s.heap := fun a o e => hs _ _ (base_K (sa := sa) KX a o e)
 obtain ⟨f1, f2, f3, f4⟩ := find_meth w.params hm
 exact method_fn X (inst_of h1 h2) f3 f4 f1 f2 (by show (lookIn name (dictOf es n)).map _ = _; rw [lookIn_dict, hg]; rfl) hq
theorem cls_attr (KX : (KK w.params).In h) {A : Around} {s : Shared} {Q : Value -> Shared -> Prop} {expr : Bool} {C x dx : Addr} {name : Str} {a : Addr} {es : List DictEntry} {n : Nat} (hC : (C == 117 || C == 150) = true) (hn : (name == kRanks || name == kKnown || name == kWeights) = true)
   (hs : Sub (restrict h (baseL w.params sa)) s.heap) (h1 : s.heap.get? x = some (instObj C dx)) (h2 : s.heap.get? dx = some (dictOf es n)) (hg : getL name es = some (some (.ref a))) (hq : Q (.ref a) { s with toks := s.toks + 1 }) :
   wpAny (model prog w) A (getAttr (.ref x) name expr) Q no s := by
 have X : (KK w.params).In s.heap := fun a o e => hs _ _ (base_K (sa := sa) KX a o e)
 obtain ⟨f1, f2, f3, f4, f5⟩ := find_attr w.params hC hn
 exact get_value X (inst_of h1 h2) f3 (findObj_own f2 f1 rfl hg) rfl hq
theorem cls_setattr (KX : (KK w.params).In h) {A : Around} {s : Shared} {Q : Unit -> Shared -> Prop} {C x dx : Addr} {name : Str} {v : Value} {es : List DictEntry} {n : Nat} (hC : (C == 117 || C == 150) = true) (hn : (name == kRanks || name == kKnown || name == kWeights) = true)
   (hs : Sub (restrict h (baseL w.params sa)) s.heap) (h1 : s.heap.get? x = some (instObj C dx)) (h2 : s.heap.get? dx = some (dictOf es n)) (hg : getL name es = some none) (hz : es.length <= 10)
   (hq : ∀ h' e n' t k, e.key = .str name t -> e.val = v -> h'.get? dx = some (dictOf (es ++ [e]) n') -> Heap.SameBut dx s.heap h' -> Q () { s with heap := h', toks := k }) : wpAny (model prog w) A (setAttr (.ref x) name v) Q no s := by
 have X : (KK w.params).In s.heap := fun a o e => hs _ _ (base_K (sa := sa) KX a o e)
 obtain ⟨f1, f2, f3, f4, f5⟩ := find_attr w.params hC hn
 exact set_new X h1 h2 f1 f2 f4 f5 hg hz hq
theorem meth_fn {C : Addr} {name : Str} {f : Addr} (h : methT C name = some f) : (fnT f).isSome = true := by
 obtain ⟨_, h⟩ := meth_cases h
 rcases h with ⟨_, rfl⟩ | ⟨_, rfl⟩ | ⟨_, ⟨_, rfl⟩ | ⟨_, rfl⟩⟩ | ⟨_, _, rfl⟩ <;> decide +kernel
theorem cls0 (KX : (KK w.params).In h) : ClsOk PP0 prog w (restrict h (baseL w.params sa)) where
 meth := fun hm hs h1 h2 hg hq => cls_meth KX hm hs h1 h2 hg hq
 attr := fun hC hn hs h1 h2 hg hq => cls_attr KX hC hn hs h1 h2 hg hq
 setattr := fun hC hn hs h1 h2 hg hz hq => cls_setattr KX hC hn hs h1 h2 hg hz hq
 methFn := fun C name f h => meth_fn h
 ctor := fun _ _ h => by exact no_some h
end
end Mine
end
section
namespace Mine
open PySem PySem.W PyProof.Rows PySem.Spec
theorem init_body : ∃ p1 p2 p3 p4 p5 p6 p7 p8, (meAt 9 0).body = [.Assign [.Attribute (.Name "self" p1) "ranks" p2] (.Name "ranks" p3) p4, .Assign [.Attribute (.Name "self" p5) "known" p6] (.Dict [] [] p7) p8] := ⟨_, _, _, _, _, _, _, _, rfl⟩
theorem init_params : (meAt 9 0).params = ([("self" : Str), ("ranks" : Str)] : List Str) := rfl
theorem init_self : (meAt 9 0).sc.names.lookup ("self" : Str) = some .local := by decide +kernel
theorem init_ranks : (meAt 9 0).sc.names.lookup ("ranks" : Str) = some .local := by decide +kernel
theorem nameM_local {P : Par} {fm : Fm} {x : Str} {v : V} (h0 : (x == ("__debug__" : Str)) = false) (h1 : fm.sc.names.lookup x = some .local) (h2 : fm.loc.lookup x = some v) : nameM P fm x = some v := by
 unfold nameM
 rw [if_neg (by rw [h0]; decide), h1]; exact h2
theorem ev_name {P : Par} {n : Nat} {fm : Fm} {x : Str} {p : Pos} {μ : Sto} {v : V} (h : nameM P fm x = some v) : (Lvl P (n + 1)).ev fm (.Name x p) μ = some (v, μ) := by
 show (nameM P fm x).bind (fun v => some (v, μ)) = _
 rw [h]; rfl
theorem setAttr_ok {P : Par} {μ : Sto} {C : Addr} {j : Nat} {l : List (Str × V)} {name : Str} {v : V} (h0 : μ[j]? = some (.attrs l)) (hc : P.cls C = true) (hn : (name == kRanks || name == kKnown || name == kWeights) = true) (hr : isRefV v = true) (hl : (l.lookup name).isNone = true)
   (hz : decide (l.length < 5) = true) : setAttrM P μ (.inst C j) name v = some (μ.set j (.attrs (l ++ [(name, v)]))) := by
 show ((μ[j]?).bind attrsO).bind _ = _
 rw [h0]
 exact if_pos (by rw [hc, hn, hr, hl, hz]; rfl)
theorem ev_init {l : List (PyData × PyData)} {μ : Sto} {C : Addr} (hC : (C == 117 || C == 150) = true) : ∃ ρ', (Lvl PP0 3).exs (meAt 9 0).sc (meAt 9 0).body ((meAt 9 0).params.zip [.inst C μ.length, .dict l]) (μ ++ [.attrs []]) =
   some (.next, ρ', μ ++ [.attrs [(kRanks, .dict l), (kKnown, .obj (μ.length + 1))], .dict []]) := by
 obtain ⟨p1, p2, p3, p4, p5, p6, p7, p8, hb⟩ := init_body
 rw [hb, init_params]
 refine ⟨([("self" : Str), ("ranks" : Str)] : List Str).zip [V.inst C μ.length, .dict l], ?_⟩
 have s1 : ∀ p μ', (Lvl PP0 2).ev ⟨(meAt 9 0).sc, ([("self" : Str), ("ranks" : Str)] : List Str).zip [V.inst C μ.length, .dict l]⟩ (.Name "self" p) μ' = some (.inst C μ.length, μ') := fun p μ' => ev_name (nameM_local (by decide) init_self (by rfl))
 have s2 : ∀ p μ', (Lvl PP0 2).ev ⟨(meAt 9 0).sc, ([("self" : Str), ("ranks" : Str)] : List Str).zip [V.inst C μ.length, .dict l]⟩ (.Name "ranks" p) μ' = some (.dict l, μ') := fun p μ' => ev_name (nameM_local (by decide) init_ranks (by rfl))
 have s3 : ∀ p (μ' : Sto), (Lvl PP0 2).ev ⟨(meAt 9 0).sc, ([("self" : Str), ("ranks" : Str)] : List Str).zip [V.inst C μ.length, .dict l]⟩ (.Dict [] [] p) μ' = some (.obj μ'.length, μ' ++ [.dict []]) := fun p μ' => rfl
 have hcls : PP0.cls C = true := hC
 have g0 : (μ ++ [MO.attrs []])[μ.length]? = some (.attrs []) := by simp
 have a1 : setAttrM PP0 (μ ++ [.attrs []]) (.inst C μ.length) "ranks" (.dict l) = some (μ ++ [.attrs [(kRanks, .dict l)]]) := by
   refine (setAttr_ok g0 hcls (by rfl) rfl (by rfl) (by rfl)).trans ?_
   simp [kRanks]
 have g1 : (μ ++ [MO.attrs [(kRanks, .dict l)]] ++ [.dict []])[μ.length]? = some (.attrs [(kRanks, .dict l)]) := by simp
 have a2 : setAttrM PP0 (μ ++ [.attrs [(kRanks, .dict l)]] ++ [.dict []]) (.inst C μ.length) "known" (.obj (μ.length + 1)) = some (μ ++ [.attrs [(kRanks, .dict l), (kKnown, .obj (μ.length + 1))], .dict []]) := by
   refine (setAttr_ok g1 hcls (by rfl) rfl (by rfl) (by rfl)).trans ?_
   simp [kKnown]
 have hl : (μ ++ [MO.attrs [(kRanks, .dict l)]]).length = μ.length + 1 := by simp
 generalize ([("self" : Str), ("ranks" : Str)] : List Str).zip [V.inst C μ.length, .dict l] = ρ0 at s1 s2 s3 ⊢
 have st1 : stepEx PP0 (Lvl PP0 2) (meAt 9 0).sc (.Assign [.Attribute (.Name "self" p1) "ranks" p2] (.Name "ranks" p3) p4) ρ0 (μ ++ [.attrs []]) = some (.next, ρ0, μ ++ [.attrs [(kRanks, .dict l)]]) := by
   show ((Lvl PP0 2).ev ⟨(meAt 9 0).sc, ρ0⟩ (.Name "ranks" p3) (μ ++ [.attrs []])).bind (asgA PP0 (Lvl PP0 2) (meAt 9 0).sc (.Name "self" p1) "ranks" ρ0) = _
   rw [s2]
   show ((Lvl PP0 2).ev ⟨(meAt 9 0).sc, ρ0⟩ (.Name "self" p1) (μ ++ [.attrs []])).bind _ = _
   rw [s1]
   show (setAttrM PP0 (μ ++ [.attrs []]) (.inst C μ.length) "ranks" (.dict l)).bind _ = _
   rw [a1]
   rfl
 have st2 : stepEx PP0 (Lvl PP0 2) (meAt 9 0).sc (.Assign [.Attribute (.Name "self" p5) "known" p6] (.Dict [] [] p7) p8) ρ0 (μ ++ [.attrs [(kRanks, .dict l)]]) =
     some (.next, ρ0, μ ++ [.attrs [(kRanks, .dict l), (kKnown, .obj (μ.length + 1))], .dict []]) := by
   show ((Lvl PP0 2).ev ⟨(meAt 9 0).sc, ρ0⟩ (.Dict [] [] p7) (μ ++ [.attrs [(kRanks, .dict l)]])).bind (asgA PP0 (Lvl PP0 2) (meAt 9 0).sc (.Name "self" p5) "known" ρ0) = _
   rw [s3]
   show ((Lvl PP0 2).ev ⟨(meAt 9 0).sc, ρ0⟩ (.Name "self" p5) (μ ++ [.attrs [(kRanks, .dict l)]] ++ [.dict []])).bind _ = _
   rw [s1, hl]
   show (setAttrM PP0 (μ ++ [.attrs [(kRanks, .dict l)]] ++ [.dict []]) (.inst C μ.length) "known" (.obj (μ.length + 1))).bind _ = _
   rw [a2]
   rfl
 show (stepEx PP0 (Lvl PP0 2) (meAt 9 0).sc _ _ _).bind _ = _
 rw [st1]
 show (stepEx PP0 (Lvl PP0 2) (meAt 9 0).sc _ _ _).bind _ = _
 rw [st2]
 rfl
theorem call_init {l : List (PyData × PyData)} {μ : Sto} {C : Addr} (hC : (C == 117 || C == 150) = true) : callF (Lvl PP0 3) (meAt 9 0) [.inst C μ.length, .dict l] (μ ++ [.attrs []]) = some (.d .none, μ ++ [.attrs [(kRanks, .dict l), (kKnown, .obj (μ.length + 1))], .dict []]) := by
 obtain ⟨ρ', hx⟩ := ev_init (l := l) (μ := μ) hC
 unfold callF
 rw [if_pos (by rfl), hx]
 rfl
section
variable {w : World} {h : Heap} {mg mb : Str -> Option Value} {sa : Addr} {so : Obj} {prog : Program} {A : Around} {G : Heap} {θ : List Addr} {s : Shared} {μ : Sto} {base : Heap}
theorem new_inst (C : Addr) (I : Inv prog w base G θ s μ) : Ext [] G θ s (plus G (s.heap.objs.size + 1) (instObj C s.heap.objs.size)) (θ ++ [s.heap.objs.size]) { s with heap := (s.heap.push emptyDict).push (instObj C s.heap.objs.size) } /\
   Inv prog w base (plus G (s.heap.objs.size + 1) (instObj C s.heap.objs.size)) (θ ++ [s.heap.objs.size]) { s with heap := (s.heap.push emptyDict).push (instObj C s.heap.objs.size) } (μ ++ [.attrs []]) /\
   RV prog w (plus G (s.heap.objs.size + 1) (instObj C s.heap.objs.size)) (θ ++ [s.heap.objs.size]) (.ref (s.heap.objs.size + 1)) (.inst C μ.length) := by
 have I1 := I.allocM (o := emptyDict) (mo := .attrs []) rfl ⟨I.gnone (Nat.le_refl _), [], 0, Heap.get?_push_size _ rfl, .nil⟩
 have e1 : Ext [] G θ s G (θ ++ [s.heap.objs.size]) { s with heap := s.heap.push emptyDict } := Ext.allocM
 have hsz : (s.heap.push emptyDict).objs.size = s.heap.objs.size + 1 := Heap.size_push ..
 have I2 := I1.alloc (o := instObj C s.heap.objs.size) (fun hc => by cases hc) rfl
 have e2 := Ext.alloc (o := instObj C s.heap.objs.size) I1
 simp only [hsz] at I2 e2
 exact ⟨e1.trans e2, I2, .inst (plus_self rfl) (by rw [<- I.len]; simp)⟩
theorem under_room {n : Nat} {C : Addr} {rest : List Value} (h : Room A (n + 3)) : Room (A.under (.builtin "type.__call__" ⟨.ref C :: rest, []⟩)) n := by
 have hw : (Code.builtin "type.__call__" ⟨.ref C :: rest, []⟩).weight <= 3 := by
   have : (Code.builtin "type.__call__" ⟨.ref C :: rest, []⟩).weight = 1 := by kernel_rfl
   omega
 have hu : (Code.builtin "type.__call__" ⟨.ref C :: rest, []⟩).cUnits <= 24 := by
   have : (Code.builtin "type.__call__" ⟨.ref C :: rest, []⟩).cUnits = 1 := by kernel_rfl
   omega
 have h1 := h.depth
 have h2 := h.units
 exact ⟨h.hand, by show A.depth + _ + n < _; omega, by show A.units + _ + 8 * n + 200 < _; omega⟩
theorem makes_chk (p : Params) : makesIn (KK p) 117 = true /\ makesIn (KK p) 150 = true := ⟨by kernel_rfl, by kernel_rfl⟩
theorem init_chk (p : Params) : findIn (KK p) (.ref 117) "__init__" = some (some (.ref 95)) /\ findIn (KK p) (.ref 150) "__init__" = some (some (.ref 137)) /\ typeIn (KK p) (.ref 95) = some (.type "function") /\ typeIn (KK p) (.ref 137) = some (.type "function") :=
 ⟨by kernel_rfl, by kernel_rfl, by kernel_rfl, by kernel_rfl⟩
theorem ctor_light {rv : Value} {l : List (PyData × PyData)} (B0 : BaseOk PP0 prog w base) (H0 : ClsOk PP0 prog w base) (hK : ∀ a o, (KK w.params).lookup a = some o -> base.get? a = some o) (hroom : Room A 28)
   (I : Inv prog w base G θ s μ) (rr : RV prog w G θ rv (.dict l)) :
   wpAny (model prog w) A (call (.ref 117) [rv]) (Post prog w base G θ s (μ ++ [.attrs [(kRanks, .dict l), (kKnown, .obj (μ.length + 1))], .dict []]) (.inst 117 μ.length)) no s := by
 have X : (KK w.params).In s.heap := fun a o e => I.sub _ _ (I.bs _ _ (hK a o e))
 obtain ⟨e1, I1, ri⟩ := new_inst 117 I
 obtain ⟨hh, g, d, t, os⟩ := s
 refine wpAny_call (make_core (makes_of X (makes_chk w.params).1) (looks_findIn X (init_chk w.params).1) (fun self => bind_fn X self (init_chk w.params).2.2.1) (.inl rfl) ?_)
 have hfn : PP0.fn 95 = some (meAt 9 0) := by rfl
 have key := s_codeFn (n := 24) B0 (fun A G θ s μ env sc ρ sts fl ρ' μ' hr I R h => (sound 20 (.inr rfl) B0 H0 3).2.2.1 A G θ s μ env sc ρ sts fl ρ' μ' (hr.less (by omega)) I R h) (under_room (C := 117) (rest := [rv]) hroom |>.less (by omega)) I1 hfn (.cons ri (.cons (e1.rv rr) .nil)) (call_init (by rfl))
 refine codeAny_mono key fun q s' z => ?_
 obtain ⟨v, rfl, p⟩ := z
 refine p.el fun G2 θ2 e2 I2 rn => ?_
 obtain ⟨_, rn⟩ := rn.data
 refine of_none rn ?_; clear rn; rintro rfl
 exact ⟨rfl, G2, θ2, e1.trans e2, I2, e2.rv ri⟩
end
end Mine
end
section
namespace Mine
open PySem PySem.W PyProof.Rows PySem.Spec
theorem heavy_body : ∃ (p1 p2 p3 p4 p5 p6 p7 p8 p9 p10 p11 p12 p13 p14 p15 : Pos) (inner : List Stmt), (meAt 10 0).body =
   [.Expr (.Call (.Attribute (.Call (.Name "super" p1) [] [] p2) "__init__" p3) [.Name "ranks" p4] [] p5) p6,
    .For (.Name "op" p7) (.Call (.Name "sorted" p8) [.Name "weights" p9] [] p10) inner [] p11,
    .Assign [.Attribute (.Name "self" p12) "weights" p13] (.Name "weights" p14) p15] /\ (p3.endLine == p5.line) = true := ⟨_, _, _, _, _, _, _, _, _, _, _, _, _, _, _, _, rfl, rfl⟩
noncomputable def fileAt (K : Frag) (a : Addr) : Str := match ((flAt K a)[2]? : Option Value) with
 | some (.str x t) => x
 | _ => "?"
noncomputable def ftokAt (K : Frag) (a : Addr) : Tok := match ((flAt K a)[2]? : Option Value) with
 | some (.str _ t) => t
 | _ => 0
theorem hv1 (p : Params) : (fdAt (KK p) 137).closure = [(("__class__" : Str), (125 : Addr))] := by kernel_rfl
theorem hv2 (p : Params) : (objAt (KK p) 125).data = .cell (some (.ref 150)) := by kernel_rfl
theorem hv3 (p : Params) : (fdAt (KK p) 137).scope = (meAt 10 0).sc := by kernel_rfl
theorem hv4 (p : Params) : (fdAt (KK p) 137).body = .stmts (meAt 10 0).body := by kernel_rfl
theorem hv5 (p : Params) : ((Challenge.rw_sa0018_01.row.prog.main.file : Str) == fileAt (KK p) 137) = true := by kernel_rfl
theorem hv6 (p : Params) : (flAt (KK p) 137)[2]? = some (.str (fileAt (KK p) 137) (ftokAt (KK p) 137)) := by kernel_rfl
theorem hv7 (p : Params) : (KK p).lookup 137 = some (objAt (KK p) 137) := by kernel_rfl
theorem hv8 (p : Params) : (objAt (KK p) 137).data = .func (fdAt (KK p) 137) := by kernel_rfl
theorem hv9 (p : Params) : (fdAt (KK p) 137).code = .ref (cdAt (KK p) 137) := by kernel_rfl
theorem hv10 (p : Params) : (KK p).lookup (cdAt (KK p) 137) = some (objAt (KK p) (cdAt (KK p) 137)) := by kernel_rfl
theorem hv11 (p : Params) : (objAt (KK p) (cdAt (KK p) 137)).data = .fields (flAt (KK p) 137) := by kernel_rfl
theorem hv12 (p : Params) : (flAt (KK p) 137)[1]? = some (.str (fdAt (KK p) 137).qualname (tokAt (KK p) 137)) := by kernel_rfl
theorem hv13 (p : Params) (a b c : Value) : bindArgs (fdAt (KK p) 137) ⟨[a, b, c], []⟩ = pure [(("self" : Str), a), (("weights" : Str), b), (("ranks" : Str), c)] := by kernel_rfl
theorem hv14 (p : Params) : (fdAt (KK p) 137).globals = mainGlobals /\ (fdAt (KK p) 137).builtins = builtinsNs := ⟨by kernel_rfl, by kernel_rfl⟩
theorem hv15 (p : Params) : (KK p).lookup 125 = some (objAt (KK p) 125) := by kernel_rfl
theorem hv16 : Challenge.rw_sa0018_01.row.prog.main.scope.names.lookup ("super" : Str) = none := by decide +kernel
theorem hv17 (p : Params) : nsIn (KK p) mainGlobals "super" = some none /\ nsIn (KK p) mainGlobals "sorted" = some none := ⟨by kernel_rfl, by kernel_rfl⟩
theorem hv18 (p : Params) : ∃ cd, clsIn (KK p) 150 = some cd /\ alongIn (KK p) "__init__" ((cd.mro.dropWhile (· != .ref 150)).drop 1) = some (some (.ref 95)) := by
 cases h : clsIn (KK p) 150 with
 | none => exact absurd h (by intro h; have : (clsIn (KK p) 150).isSome = true := by kernel_rfl
                              rw [h] at this; exact no_ft this)
 | some cd =>
   refine ⟨cd, rfl, ?_⟩
   have : (clsIn (KK p) 150).map (fun cd => alongIn (KK p) "__init__" ((cd.mro.dropWhile (· != .ref 150)).drop 1)) = some (some (some (.ref 95))) := by kernel_rfl
   rw [h] at this
   simpa using this
theorem hv19 (p : Params) : mroIn (KK p) 150 (.ref 150) = some true := by kernel_rfl
theorem hv20 (p : Params) : (nsIn (KK p) cStatics "thirdparty.any" = some none) /\ fnIn (KK p) 95 = true := ⟨by kernel_rfl, by kernel_rfl⟩
noncomputable abbrev thePr : Program := Challenge.rw_sa0018_01.row.prog
section
variable {w : World} {h : Heap} {mg mb : Str -> Option Value} {sa : Addr} {so : Obj} {A : Around} {G : Heap} {θ : List Addr} {s : Shared} {μ : Sto} {base : Heap}
noncomputable abbrev hvEnv (p : Params) (L : Addr) : Env := callEnv (fdAt (KK p) 137) L 137
theorem hv_kind (p : Params) (L : Addr) (x : Str) : (hvEnv p L).kindOf x = (meAt 10 0).sc.names.lookup x := by
 show (fdAt (KK p) 137).scope.names.lookup x = _
 rw [hv3]
theorem hv_scope (p : Params) (L : Addr) : (hvEnv p L).scope.kind = .function := by
 show (fdAt (KK p) 137).scope.kind = _
 rw [hv3]; decide +kernel
theorem hv_name {p : Params} {L : Addr} {x : Str} {pos : Pos} {m : Str -> Option Value} {v : Value} {Q : Value -> Shared -> Prop} {M : Model} {E : Value -> Shared -> Prop} (hx : (meAt 10 0).sc.names.lookup x = some .local) (hn : s.heap.Ns L m) (hv : m x = some v) (hd : (x == ("__debug__" : Str)) = false) (hq : Q v s) :
   wpAny M A (eval (.Name x pos) (hvEnv p L)) Q E s :=
 wpAny_Name (wpAny_loadName_local (hv_scope p L) ((hv_kind p L x).trans hx) hn hv hq) hd
theorem hv_local : (meAt 10 0).sc.names.lookup ("self" : Str) = some .local /\ (meAt 10 0).sc.names.lookup ("weights" : Str) = some .local /\ (meAt 10 0).sc.names.lookup ("ranks" : Str) = some .local /\
   (meAt 10 0).sc.names.lookup ("super" : Str) = some .globalImplicit /\ (meAt 10 0).sc.names.lookup ("sorted" : Str) = some .globalImplicit /\ (meAt 10 0).sc.names.lookup ("__class__" : Str) = some .free := by decide +kernel
theorem hv_first {p2 p3 p4 p5 p6 p1 : Pos} {x : Addr} {L : Addr} {rv : Value} {l : List (PyData × PyData)} {m : Str -> Option Value} {body : List Stmt} {R : Flow -> Shared -> Prop} (B0 : BaseOk PP0 thePr w base) (H0 : ClsOk PP0 thePr w base)
   (hK : ∀ a o, (KK w.params).lookup a = some o -> base.get? a = some o) (hg : base.Ns mainGlobals mg) (hb : base.Ns builtinsNs mb) (hboot : ∀ x : Str, x ≠ "__name__" -> mb x = bootBuiltins x) (hroom : Room A 40) (I : Inv thePr w base G θ s (μ ++ [.attrs []]))
   (rr : RV thePr w G θ rv (.dict l)) (ri : RV thePr w G θ (.ref x) (.inst 150 μ.length)) (hn : s.heap.Ns L m) (m1 : m "self" = some (.ref x)) (m2 : m "ranks" = some rv)
   (hp : (p3.endLine == p5.line) = true) (hq : ∀ G' θ' s', Ext [] G θ s G' θ' s' -> Inv thePr w base G' θ' s' (μ ++ [.attrs [(kRanks, .dict l), (kKnown, .obj (μ.length + 1))], .dict []]) -> R .next s') :
   PySem.wpAt (model thePr w) A (.func body (hvEnv w.params L)) (exec (.Expr (.Call (.Attribute (.Call (.Name "super" p1) [] [] p2) "__init__" p3) [.Name "ranks" p4] [] p5) p6) (hvEnv w.params L)) R no s := by
 have hbs : Sub base s.heap := I.bs.trans I.sub
 have X : (KK w.params).In s.heap := fun a o e => hbs _ _ (hK a o e)
 have hhd := hroom.hand
 obtain ⟨n1, n2, n3, n4, n5, n6⟩ := hv_local
 obtain ⟨dx, es, n, hx, hdx⟩ : ∃ dx es n, s.heap.get? x = some (instObj 150 dx) /\ s.heap.get? dx = some (dictOf es n) := by
   obtain ⟨y, dx, es, n, e, h1, h2, _⟩ := inst_at I ri (by simp : (μ ++ [MO.attrs []])[μ.length]? = some (.attrs []))
   cases e
   exact ⟨dx, es, n, h1, h2⟩
 refine ks_wpAt_Expr_any ?_ (by unfold interactive; rw [hv_scope]; rfl) rfl
 have hpos : methodCallPos true (.Call (.Name "super" p1) [] [] p2) (hvEnv w.params L) p3 p5 = pure p5 := by unfold methodCallPos; rw [hp]; rfl
 have hform : methodCallForm (([.Name "ranks" p4] : List Expr).length + ([] : List Keyword).length) (backTo p5 (starEach [.Name "ranks" p4] (hvEnv w.params L))) (backToKw p5 (keywordEach [] (hvEnv w.params L))) = true := rfl
 refine ks_wpAt_MethodCall (pl := (do return (<- importBound (.Call (.Name "super" p1) [] [] p2) (hvEnv w.params L)).getD true)) ?_ (by
   rw [arm_eval_Call]
   unfold methodCall
   rw [hform, hpos]
   rfl)
 · refine ks_wpAt_super_base (of := objAt (KK w.params) 137) (oc := objAt (KK w.params) (cdAt (KK w.params) 137)) (fd := fdAt (KK w.params) 137) (ar := ((fdAt (KK w.params) 137).params.posonlyargs ++ (fdAt (KK w.params) 137).params.args).head?.getD default)
     (vs := flAt (KK w.params) 137) (file := fileAt (KK w.params) 137) (tf := ftokAt (KK w.params) 137) ((hv_kind _ _ _).trans n4) ((hv_kind _ _ _).trans n6) (by decide) rfl (X _ _ (hv7 _)) (hv8 _) (by kernel_rfl) (hv9 _) (X _ _ (hv10 _)) (hv11 _) (hv6 _) (hv5 _) (by show (Challenge.rw_sa0018_01.row.prog.main.scope.names.lookup ("super" : Str)).isSome = false; rw [hv16]; rfl) ?_
   have har : (((fdAt (KK w.params) 137).params.posonlyargs ++ (fdAt (KK w.params) 137).params.args).head?.getD default).arg = ("self" : Str) := by kernel_rfl
   rw [har]
   refine ks_loadName_global (hv_scope _ _) ((hv_kind _ _ _).trans n4) (Calls.loadGlobal_builtin (by show s.heap.Ns (fdAt (KK w.params) 137).globals _; rw [(hv14 _).1]; exact hg.keeps hbs) (mg_none_of (fun a o e => hK a o e) hg (hv17 _).1)
     (by show s.heap.Ns (fdAt (KK w.params) 137).builtins _; rw [(hv14 _).2]; exact hb.keeps hbs) ((hboot _ (by decide +kernel)).trans (by kernel_rfl)) ⟨rfl, ?_⟩)
   have hclo : (hvEnv w.params L).cells.lookup ("__class__" : Str) = some 125 := by
     show (fdAt (KK w.params) 137).closure.lookup _ = _
     rw [hv1]; rfl
   refine wpAny_loadName_free (hv_scope _ _) ((hv_kind _ _ _).trans n6) hclo ⟨_, X _ _ (hv15 _), hv2 _⟩ ?_
   refine wpAny_loadName_local (hv_scope _ _) ((hv_kind _ _ _).trans n1) hn m1 ?_
   obtain ⟨cd, hcd, halong⟩ := hv18 w.params
   obtain ⟨oD, hD1, hD2⟩ : ∃ oD, s.heap.get? 150 = some oD /\ oD.data = .cls cd := by
     unfold clsIn at hcd
     split at hcd
     · rename_i c d cd' sl ho
       refine inj1 hcd ?_; clear hcd; rintro rfl
       exact ⟨_, X _ _ ho, rfl⟩
     · exact no_some hcd
   obtain ⟨sh, sg, sd, st, sos⟩ := s
   refine ks_wpAny_isType_cls hD1 hD2 ⟨rfl, ?_⟩
   refine ks_wpAny_call_super hD1 hD2 hx rfl (fun c e => by cases e) (looks_mroIn X (hv19 _)) fun h1 ho1 hk1 => ?_
   have X1 : (KK w.params).In h1 := fun a o e => hk1 _ _ (X a o e)
   have hf95 : (KK w.params).lookup 95 = some (objAt (KK w.params) 95) := by kernel_rfl
   have hc95 : (objAt (KK w.params) 95).cls = .type "function" := by kernel_rfl
   have hxC : x ≠ 150 := by
     rintro rfl
     have : sh.get? 150 = some (instObj 150 dx) := hx
     have hD1' : sh.get? 150 = some oD := hD1
     rw [hD1'] at this
     refine inj1 this ?_; clear this; rintro rfl
     cases hD2
   refine ks_wpAny_getMethod_super ho1 (looks_opaque X1 (hv20 _).1) (l₀ := cd.mro) (fun A Q E s k q => wpAny_bind ((looks_clsIn X1 hcd) A _ E s k (wpAny_pure q))) rfl X1 halong (X1 _ _ hf95) hc95 hxC (by decide) ?_
   -- the bound method in hand
   have hk2 : ∀ b o, sh.get? b = some o -> (h1.push (methodObj (.ref 95) (.ref x))).get? b = some o := fun b o e => Heap.get?_push_of_some _ (hk1 _ _ e)
   have hmo : (h1.push (methodObj (.ref 95) (.ref x))).get? h1.objs.size = some (methodObj (.ref 95) (.ref x)) := Heap.get?_push_size _ rfl
   have X2 : (KK w.params).In (h1.push (methodObj (.ref 95) (.ref x))) := fun a o e => hk2 _ _ (X a o e)
   have I2 : Inv thePr w base G θ ⟨h1.push (methodObj (.ref 95) (.ref x)), sg, sd, st + 1, sos⟩ (μ ++ [.attrs []]) := I.grow hk2
   have e2 : Ext [] G θ ⟨sh, sg, sd, st, sos⟩ G θ ⟨h1.push (methodObj (.ref 95) (.ref x)), sg, sd, st + 1, sos⟩ := Ext.grow hk2
   have hn2 : (h1.push (methodObj (.ref 95) (.ref x))).Ns L m := hn.at' fun o e => hk2 _ _ e
   refine callWith_of (P := MethP (KK w.params) h1.objs.size 95 (.ref x)) rfl (fun hh hP => keeps_M (hv20 w.params).2 hh hP) (Calls.evalArgs_plain (Calls.spliced_cons (hv_name (s := ⟨h1.push (methodObj (.ref 95) (.ref x)), sg, sd, st + 1, sos⟩) n3 hn2 m2 (by decide) (Calls.spliced_nil ⟨⟨hmo, X2⟩, ?_⟩))))
   show wpAny _ _ (call (.ref h1.objs.size) [rv]) _ _ _
   refine wpAny_call (method_call hmo ?_)
   have hfn : PP0.fn 95 = some (meAt 9 0) := by rfl
   have key := s_codeFn (n := 24) B0 (fun A G θ s μ env sc ρ sts fl ρ' μ' hr I R h => (sound 20 (.inr rfl) B0 H0 3).2.2.1 A G θ s μ env sc ρ sts fl ρ' μ' (hr.less (by omega)) I R h) (hroom.less (by omega)) I2 hfn (.cons ri (.cons rr .nil)) (call_init (by rfl))
   refine codeAny_mono key fun q s' z => ?_
   obtain ⟨v, rfl, p⟩ := z
   refine p.el fun G3 θ3 e3 I3 rn => ?_
   exact hq G3 θ3 s' (e2.trans e3) I3
theorem hv_second {p7 p8 p9 p10 p11 : Pos} {inner : List Stmt} {L : Addr} {wv : Value} {i : Nat} {m : Str -> Option Value} {R : Flow -> Shared -> Prop} (B0 : BaseOk PP0 thePr w base)
   (hK : ∀ a o, (KK w.params).lookup a = some o -> base.get? a = some o) (hg : base.Ns mainGlobals mg) (hb : base.Ns builtinsNs mb) (hboot : ∀ x : Str, x ≠ "__name__" -> mb x = bootBuiltins x) (hroom : Room A 40) (I : Inv thePr w base G θ s μ)
   (rw_ : RV thePr w G θ wv (.obj i)) (hm : μ[i]? = some (.dict [])) (hn : s.heap.Ns L m) (m1 : m "weights" = some wv)
   (hq : ∀ G' θ' s', Ext [] G θ s G' θ' s' -> Inv thePr w base G' θ' s' μ -> R .next s') :
   wpAny (model thePr w) A (exec (.For (.Name "op" p7) (.Call (.Name "sorted" p8) [.Name "weights" p9] [] p10) inner [] p11) (hvEnv w.params L)) R no s := by
 have hbs : Sub base s.heap := I.bs.trans I.sub
 obtain ⟨n1, n2, n3, n4, n5, n6⟩ := hv_local
 refine of_obj rw_ ?_; clear rw_; rintro a rfl e
 obtain ⟨hgn, o, ho, D, lo⟩ := I.rep i a _ e hm
 refine wpAny_For ?_ (fun x => rfl)
 show wpAny _ _ (do callWith p10 (<- eval (.Name "sorted" p8) (hvEnv w.params L)) [] (backTo p10 (starEach [.Name "weights" p9] (hvEnv w.params L))) (backToKw p10 (keywordEach [] (hvEnv w.params L)))) _ _ _
 refine wpAny_bind (wpAny_Name (ks_loadName_global (hv_scope _ _) ((hv_kind _ _ _).trans n5) (Calls.loadGlobal_builtin (by show s.heap.Ns (fdAt (KK w.params) 137).globals _; rw [(hv14 _).1]; exact hg.keeps hbs) (mg_none_of (fun a o e => hK a o e) hg (hv17 _).2)
     (by show s.heap.Ns (fdAt (KK w.params) 137).builtins _; rw [(hv14 _).2]; exact hb.keeps hbs) ((hboot _ (by decide +kernel)).trans (by kernel_rfl : bootBuiltins "sorted" = some (.builtin "sorted"))) ?_)) (by decide))
 refine callWith_of (P := fun _ => True) rfl (fun hh _ => keeps_plain (fun a => by simp) hh) (Calls.evalArgs_plain (Calls.spliced_cons (hv_name n2 hn m1 (by decide) (Calls.spliced_nil ⟨trivial, ?_⟩))))
 show wpAny _ _ (call (.builtin "sorted") [.ref a]) _ _ _
 refine wpAny_mono (b_sorted hroom.hand I ho D lo rfl) (fun v s1 p1 => ?_) fun _ _ x => x.elim
 refine p1.el fun G1 θ1 e1 I1 r1 => ?_
 obtain ⟨as, r1⟩ := r1.data
 refine no_any (wpAny_mono (feed_list (tgt := .Name "op" p7) hroom.hand I1 r1) (fun itv s2 p2 => ?_) fun _ _ x => x)
 obtain ⟨G2, θ2, s0, Ia, fp, wr, Pp, Md, St, rfl, e2, I2, hsame, hkp, Fd⟩ := p2
 refine codeAny_forLoop_any (fun _ s3 => s3 = s2) ?_ 1 rfl
 rintro k s3 rfl
 refine no_any (Fd.turns.done _ _ _ Fd.st fun h' tk hk => wpAny_execs_nil ?_)
 obtain ⟨h2, t2, rfl⟩ := hsame
 have hk' : ∀ b o, s0.heap.get? b = some o -> h'.get? b = some o := fun b o e => hk b o (fun q => by rw [(Fd.wrNew b q).1] at e; exact no_some e) (hkp b o e)
 have e3 : Ext [] G2 θ2 s0 G2 θ2 { s0 with heap := h', toks := tk } := Ext.grow hk'
 exact hq G2 θ2 _ ((e1.trans e2).trans e3) (I2.grow hk')
theorem hv_third {p12 p13 p14 p15 : Pos} {x : Addr} {L : Addr} {wv : Value} {i j : Nat} {μ' : Sto} {m : Str -> Option Value} {R : Flow -> Shared -> Prop} (H0 : ClsOk PP0 thePr w base) (I : Inv thePr w base G θ s μ)
   (rw_ : RV thePr w G θ wv (.obj i)) (ri : RV thePr w G θ (.ref x) (.inst 150 j)) (hn : s.heap.Ns L m) (m1 : m "weights" = some wv) (m2 : m "self" = some (.ref x)) (hs : setAttrM PP0 μ (.inst 150 j) "weights" (.obj i) = some μ')
   (hq : ∀ s', Ext [] G θ s G θ s' -> Inv thePr w base G θ s' μ' -> R .next s') :
   wpAny (model thePr w) A (exec (.Assign [.Attribute (.Name "self" p12) "weights" p13] (.Name "weights" p14) p15) (hvEnv w.params L)) R no s := by
 obtain ⟨n1, n2, n3, n4, n5, n6⟩ := hv_local
 rw [exec_Assign']
 have hsw : swapsWithSole [.Attribute (.Name "self" p12) "weights" p13] (.Name "weights" p14) p15.line (hvEnv w.params L) = pure false := rfl
 rw [hsw]
 refine wpAny_bind (wpAny_standAt (wpAny_bind (wpAny_pure ?_)))
 simp only [Bool.false_eq_true, if_false]
 refine wpAny_bind (hv_name n2 hn m1 (by decide) ?_)
 have hst : swappedStores [.Attribute (.Name "self" p12) "weights" p13] (.Name "weights" p14) (hvEnv w.params L) = pure none := rfl
 rw [hst]
 refine wpAny_bind (wpAny_pure ?_)
 show wpAny _ _ ((do
   let ov <- holding [wv] (eval (.Name "self" p12) (hvEnv w.params L))
   standAt p13.atName
   holding [wv, ov] (setAttr ov "weights" wv)
   release [wv, ov] []) >>= fun _ => pure Flow.next) _ _ _
 refine wpAny_bind (wpAny_bind (wpAny_holding (hv_name n1 hn m2 (by decide) ?_)))
 refine wpAny_bind (wpAny_standAt (wpAny_bind (wpAny_holding (wpAny_mono (s_setAttr H0 I ri rw_ hs) (fun _ s3 p3 => ?_) fun _ _ q => q))))
 exact wpAny_release (wpAny_pure (hq s3 p3.1 p3.2))
theorem hv_nocell (p : Params) : ∀ y ∈ (fdAt (KK p) 137).scope.names, y.2 ≠ .cell := by
 rw [hv3]
 have : (meAt 10 0).sc.names.all (fun y => !(y.2 == .cell)) = true := by decide +kernel
 intro y hy e
 have := List.all_eq_true.mp this y hy
 rw [e] at this; simp at this
theorem hv_flags (p : Params) : (fdAt (KK p) 137).scope.isCoroutine = false /\ (fdAt (KK p) 137).scope.isGenerator = false /\ (fdAt (KK p) 137).scope.kind = .function := by
 rw [hv3]
 decide +kernel
theorem hv_binds (p : Params) (a b c : Value) : ∀ y ∈ [(("self" : Str), a), (("weights" : Str), b), (("ranks" : Str), c)], (fdAt (KK p) 137).scope.names.lookup y.1 = some .local := by
 intro y hy
 rw [hv3]
 obtain ⟨n1, n2, n3, _⟩ := hv_local
 simp only [List.mem_cons, List.not_mem_nil, or_false] at hy
 rcases hy with rfl | rfl | rfl
 · exact n1
 · exact n2
 · exact n3
theorem hv_look (a b c : Value) : (([(("self" : Str), a), (("weights" : Str), b), (("ranks" : Str), c)] : List (Str × Value)).reverse.lookup ("self" : Str) = some a) /\ (([(("self" : Str), a), (("weights" : Str), b), (("ranks" : Str), c)] : List (Str × Value)).reverse.lookup ("weights" : Str) = some b) /\
   (([(("self" : Str), a), (("weights" : Str), b), (("ranks" : Str), c)] : List (Str × Value)).reverse.lookup ("ranks" : Str) = some c) := ⟨rfl, rfl, rfl⟩
theorem hv_set (μ : Sto) (i : Nat) (l : List (PyData × PyData)) : setAttrM PP0 (μ ++ [.attrs [(kRanks, .dict l), (kKnown, .obj (μ.length + 1))], .dict []]) (.inst 150 μ.length) "weights" (.obj i) = some (μ ++ [.attrs [(kRanks, .dict l), (kKnown, .obj (μ.length + 1)), (kWeights, .obj i)], .dict []]) := by
 have hcls : PP0.cls 150 = true := rfl
 have g0 : (μ ++ [MO.attrs [(kRanks, .dict l), (kKnown, .obj (μ.length + 1))], .dict []])[μ.length]? = some (.attrs [(kRanks, .dict l), (kKnown, .obj (μ.length + 1))]) := by simp
 refine (setAttr_ok g0 hcls (by rfl) rfl (by rfl) (by rfl)).trans ?_
 simp [kWeights]
set_option maxHeartbeats 1000000 in
theorem hv_run {x : Addr} {wv rv : Value} {i : Nat} {l : List (PyData × PyData)} {R : Result -> Shared -> Prop} (B0 : BaseOk PP0 thePr w base) (H0 : ClsOk PP0 thePr w base) (hK : ∀ a o, (KK w.params).lookup a = some o -> base.get? a = some o)
   (hg : base.Ns mainGlobals mg) (hb : base.Ns builtinsNs mb) (hboot : ∀ x : Str, x ≠ "__name__" -> mb x = bootBuiltins x) (hroom : Room A 42)
   (I : Inv thePr w base G θ s (μ ++ [.attrs []])) (rw_ : RV thePr w G θ wv (.obj i)) (rr : RV thePr w G θ rv (.dict l)) (ri : RV thePr w G θ (.ref x) (.inst 150 μ.length)) (hm : μ[i]? = some (.dict []))
   (hq : ∀ G' θ' s', Ext [] G θ s G' θ' s' -> Inv thePr w base G' θ' s' (μ ++ [.attrs [(kRanks, .dict l), (kKnown, .obj (μ.length + 1)), (kWeights, .obj i)], .dict []]) -> R (.ok (.ret .none)) s') :
   codeAny (model thePr w) A (.call (.ref 137) ⟨[.ref x, wv, rv], []⟩) R s := by
 have hbs : Sub base s.heap := I.bs.trans I.sub
 have X : (KK w.params).In s.heap := fun a o e => hbs _ _ (hK a o e)
 obtain ⟨p1, p2, p3, p4, p5, p6, p7, p8, p9, p10, p11, p12, p13, p14, p15, inner, hbody, hpos⟩ := heavy_body
 have hil : i < μ.length := (List.getElem?_eq_some_iff.mp hm).1
 refine ks_codeAny_call_defAt (fd := fdAt (KK w.params) 137) (body := (meAt 10 0).body) (by have := hroom.depth; omega) (X _ _ (hv7 _)) (hv8 _) (B0.nolimit.keeps hbs) ⟨_, _, _, _, hv9 _, X _ _ (hv10 _), hv11 _, hv12 _⟩ (hv4 _) (BindsTo.of_eq (hv13 _ _ _ _))
   (hv_nocell _) (hv_binds _ _ _ _) (fun h2 hns hk2 => ?_) (hv_flags _).1 (hv_flags _).2.1 (hv_flags _).2.2
 obtain ⟨l1, l2, l3⟩ := hv_look (.ref x) wv rv
 rw [hbody]
 generalize hL : s.heap.objs.size = L at *
 have Lnew : s.heap.get? L = none := none_of_ge (Nat.le_of_eq hL)
 generalize hmm : (fun x_1 => ([(("self" : Str), Value.ref x), (("weights" : Str), wv), (("ranks" : Str), rv)] : List (Str × Value)).reverse.lookup x_1) = m at hns
 have m1 : m "self" = some (.ref x) := by rw [<- hmm]; exact l1
 have m2 : m "weights" = some wv := by rw [<- hmm]; exact l2
 have m3 : m "ranks" = some rv := by rw [<- hmm]; exact l3
 generalize s.toks + _ = tk
 have I2 : Inv thePr w base G θ { s with heap := h2, toks := tk } (μ ++ [.attrs []]) := I.grow hk2
 have e2 : Ext [] G θ s G θ { s with heap := h2, toks := tk } := Ext.grow hk2
 have Lθ : L ∉ θ := fun q => by obtain ⟨o, e⟩ := I.live L q; rw [Lnew] at e; exact no_some e
 have hroom2 : Room (A.deeper (hvEnv w.params L)) 40 := (hroom.less (by omega : 41 <= 42)).deeper
 show PySem.wpAt _ (A.deeper (hvEnv w.params L)) (.func _ (hvEnv w.params L)) (execs _ (hvEnv w.params L)) _ _ _
 refine ks_wpAt_mono (Q := fun f s' => f = .next /\ ∃ G' θ', Ext [] G θ s G' θ' s' /\ Inv thePr w base G' θ' s' (μ ++ [.attrs [(kRanks, .dict l), (kKnown, .obj (μ.length + 1)), (kWeights, .obj i)], .dict []])) (E := no) ?_ (fun f s' z => by obtain ⟨rfl, G', θ', e, I'⟩ := z; exact hq G' θ' s' e I') fun _ _ x => x.elim
 refine ks_wpAt_execs_cons (hv_first B0 H0 hK hg hb hboot hroom2 I2 rr ri hns m1 m3 hpos fun G3 θ3 s3 e3 I3 => ?_)
 have L3 : s3.heap.Ns L m := hns.at' fun o e => e3.keep L Lθ (by simp) o e
 have L3θ : L ∉ θ3 := fun q => by
   obtain ⟨o, _, _, ho, _⟩ := hns
   exact Lθ (e3.newT L q o ho)
 refine wpAt_of_wpAny (wpAny_execs_cons (hv_second B0 hK hg hb hboot hroom2 I3 (e3.rv rw_) (by rw [List.getElem?_append_left hil]; exact hm) L3 m2 fun G4 θ4 s4 e4 I4 => ?_))
 have L4 : s4.heap.Ns L m := L3.at' fun o e => e4.keep L L3θ (by simp) o e
 have hset := hv_set μ i l
 refine wpAny_execs_cons (hv_third H0 I4 ((e3.trans e4).rv rw_) ((e3.trans e4).rv ri) L4 m2 m1 hset fun s5 e5 I5 => ?_)
 exact wpAny_execs_nil ⟨rfl, G4, θ4, ((e2.trans e3).trans e4).trans e5, I5⟩
theorem ctor_heavy {wv rv : Value} {i : Nat} {l : List (PyData × PyData)} (B0 : BaseOk PP0 thePr w base) (H0 : ClsOk PP0 thePr w base) (hK : ∀ a o, (KK w.params).lookup a = some o -> base.get? a = some o)
   (hg : base.Ns mainGlobals mg) (hb : base.Ns builtinsNs mb) (hboot : ∀ x : Str, x ≠ "__name__" -> mb x = bootBuiltins x) (hroom : Room A 50)
   (I : Inv thePr w base G θ s μ) (rw_ : RV thePr w G θ wv (.obj i)) (rr : RV thePr w G θ rv (.dict l)) (hm : μ[i]? = some (.dict [])) :
   wpAny (model thePr w) A (call (.ref 150) [wv, rv]) (Post thePr w base G θ s (μ ++ [.attrs [(kRanks, .dict l), (kKnown, .obj (μ.length + 1)), (kWeights, .obj i)], .dict []]) (.inst 150 μ.length)) no s := by
 have hbs : Sub base s.heap := I.bs.trans I.sub
 have X : (KK w.params).In s.heap := fun a o e => hbs _ _ (hK a o e)
 obtain ⟨e1, I1, ri⟩ := new_inst 150 I
 have hur : Room (A.under (.builtin "type.__call__" ⟨.ref 150 :: [wv, rv], []⟩)) 42 := under_room (C := 150) (rest := [wv, rv]) (hroom.less (by omega))
 obtain ⟨sh, sg, sd, st, sos⟩ := s
 refine wpAny_call (make_core (makes_of X (makes_chk w.params).2) (looks_findIn X (init_chk w.params).2.1) (fun self => bind_fn X self (init_chk w.params).2.2.2) (.inl rfl) ?_)
 refine hv_run B0 H0 hK hg hb hboot hur I1 (e1.rv rw_) (e1.rv rr) ri hm fun G' θ' s' e' I' => ?_
 exact ⟨rfl, G', θ', e1.trans e', I', e'.rv ri⟩
end
end Mine
end
section
namespace Mine
open PySem PySem.W PyProof.Rows PySem.Spec
section
variable {w : World} {h : Heap} {mg mb : Str -> Option Value} {sa : Addr}
theorem cls1 (KX : (KK w.params).In h) (hg : h.Ns mainGlobals mg) (hb : h.Ns builtinsNs mb) (hboot : ∀ x : Str, x ≠ "__name__" -> mb x = bootBuiltins x) (hl : h.NoLimit) : ClsOk PP thePr w (restrict h (baseL w.params sa)) where
 meth := fun hm hs h1 h2 hg hq => cls_meth KX hm hs h1 h2 hg hq
 attr := fun hC hn hs h1 h2 hg hq => cls_attr KX hC hn hs h1 h2 hg hq
 setattr := fun hC hn hs h1 h2 hg hz hq => cls_setattr KX hC hn hs h1 h2 hg hz hq
 methFn := fun C name f h => meth_fn h
 ctor := fun {A G θ s μ μ' C hv vs Vs V} hroom I hc rs hm => by
   have B0 : BaseOk PP0 thePr w (restrict h (baseL w.params sa)) := base0 (baseOk KX hg hb hboot hl)
   have H0 : ClsOk PP0 thePr w (restrict h (baseL w.params sa)) := cls0 KX
   have hK := fun a o e => base_K (sa := sa) KX a o e
   have hmain : mainGlobals ∈ baseL w.params sa := by
     refine List.mem_cons_of_mem _ (List.mem_cons_of_mem _ (List.mem_cons_of_mem _ ?_))
     have : ∃ o, (KK w.params).lookup mainGlobals = some o := ⟨objAt (KK w.params) mainGlobals, by kernel_rfl⟩
     obtain ⟨o, ho⟩ := this
     exact List.mem_map.mpr ⟨_, lookup_mem ho, rfl⟩
   have hgB := base_ns hg hmain
   have hbB : (restrict h (baseL w.params sa)).Ns builtinsNs mb := base_ns hb (by unfold baseL; exact List.mem_cons_self)
   have hC : (C = 117 /\ hv = false) \/ (C = 150 /\ hv = true) := by
     change ctorT C = some hv at hc
     unfold ctorT at hc
     by_cases h1 : C = 117
     · rw [if_pos (by simpa using h1)] at hc; (refine inj1 hc ?_; clear hc; rintro rfl); exact .inl ⟨h1, rfl⟩
     rw [if_neg (by simpa using h1)] at hc
     by_cases h2 : C = 150
     · rw [if_pos (by simpa using h2)] at hc; (refine inj1 hc ?_; clear hc; rintro rfl); exact .inr ⟨h2, rfl⟩
     rw [if_neg (by simpa using h2)] at hc; exact no_some hc
   obtain ⟨rfl, rfl⟩ | ⟨rfl, rfl⟩ := hC
   · exact bind1 hm fun v h1 hm => bind1 hm fun r h2 hm => inj2 hm fun e e' => e ▸ e' ▸ rvs_one (of_one h1 ▸ rs : RVs thePr w G θ vs [v]) fun u eu r1 => eu ▸ ctor_light B0 H0 hK (hroom.less (by omega)) I (of_dicV h2 ▸ r1)
   · exact bind1 hm fun q h1 hm => bind1 hm fun i h2 hm => bind1 hm fun r h3 hm => bind1 hm fun l h4 hm => if_some hm fun h5 hm => inj2 hm fun e e' => e ▸ e' ▸ rvs_two (of_two h1 ▸ rs : RVs thePr w G θ vs [q.1, q.2]) fun u u2 eu r1 r2 =>
       eu ▸ ctor_heavy B0 H0 hK hgB hbB hboot (hroom.less (by omega)) I (of_objV h2 ▸ r1) (of_dicV h3 ▸ r2) ((at_dict h4).trans (by rw [List.isEmpty_iff.mp h5]))
end
end Mine
end
section
namespace Mine
open PySem PySem.W PyProof.Rows PySem.Spec
section
variable {w : World} {mg mb : Str -> Option Value} {sa : Addr}
theorem join {s₁ : Shared} {vs : List Value} {ns : List Int} {n : Nat} {μ' : Sto} (KX : (KK w.params).In s₁.heap) (hg : s₁.heap.Ns mainGlobals mg) (hb : s₁.heap.Ns builtinsNs mb) (hboot : ∀ x : Str, x ≠ "__name__" -> mb x = bootBuiltins x)
   (hl : s₁.heap.NoLimit) (hs : s₁.heap.get? sa = some { cls := .type "list", data := .seq vs.toArray }) (hI : IntsAre vs ns) (hn : n <= 500) (hlaw : (Lvl PP n).call (.con (.ref 221)) [.d (.list (ns.map .int))] [] = some (.d (.bool true), μ')) :
   wpAny (model thePr w) callerA (call (.ref 221) [.ref sa]) (fun v s' => v = .bool true /\ (∃ h tk, s' = { s₁ with heap := h, toks := tk }) /\ ∀ b o, s₁.heap.get? b = some o -> s'.heap.get? b = some o) no s₁ := by
 have B := baseOk (prog := thePr) (sa := sa) KX hg hb hboot hl
 have H := cls1 (sa := sa) KX hg hb hboot hl
 have I : Inv thePr w (restrict s₁.heap (baseL w.params sa)) (restrict s₁.heap (baseL w.params sa)) [] s₁ [] :=
   ⟨Sub.refl _, base_sub KX, rfl, List.nodup_nil, (fun a h => nomatch h), base_plain KX hb (let ⟨mc, h, _⟩ := hl; ⟨mc, h⟩) hs (fun _ _ => ⟨rfl, rfl⟩), (fun i a mo e => nomatch e)⟩
 have hroom : Room callerA (n + 100) := ⟨rfl, by show 1 + 300 + (n + 100) < 1000; omega, by
   have : 8 * 500 + 1004 < cLine := by decide +kernel
   show 4 + 8 * (n + 100) + 200 < cLine; omega⟩
 have hs' : (restrict s₁.heap (baseL w.params sa)).get? sa = some { cls := .type "list", data := .seq vs.toArray } := by
   rw [get_restrict, if_pos (by unfold baseL; simp), hs]
 have hr : Reads (restrict s₁.heap (baseL w.params sa)) (.ref sa) (.list (ns.map .int)) (sa :: []) := .list hs' rfl rfl (by simpa using ints_readAll _ hI)
 refine wpAny_mono ((sound 100 (.inl (Nat.le_refl _)) B H n).2.2.2 callerA _ _ s₁ [] _ _ _ _ _ _ hroom I (.con _) (.cons (.d hr) .nil) hlaw) (fun v s' p => ?_) fun _ _ q => q
 obtain ⟨G', θ', e, I', r⟩ := p
 obtain ⟨_, r⟩ := r.data
 refine of_bool r ?_; clear r; rintro rfl
 exact ⟨rfl, e.same, fun b o q => e.keep b (by simp) (by simp) o q⟩
end
end Mine
end
section
set_option maxHeartbeats 8000000
namespace Mine
open PySem PySem.W PyProof.Rows PySem.Spec
theorem holds_of (HL : L.LawTrue) : PySem.Challenge.rw_sa0018_01.Holds := by
 refine holds_law (by decide +kernel) fun said => ?_
 refine holds_open (q := vw) (loose := lse) (Xt := fun _ => true) (XP := fun _ _ => True) (Yf := Hook.obs (kHook KK KA ka_ok)) (Ya := Hook.val (kHook KK KA ka_ok)) (YP := Hook.says (kHook KK KA ka_ok)) (N := 3348) left_ok
   (Hook.of (kHook KK KA ka_ok)) (Hook.keeps (kHook KK KA ka_ok)) (fun _ _ => trivial) (fun _ _ _ _ _ => trivial) (by rfl) (by rfl) (by rfl) (fun s e => recFacts_nil rfl) (by rfl) said (by decide +kernel) ⟨rfl, rfl, rfl, rfl, rfl, by decide +kernel⟩ ?hw ?hc
 case hw => w_witness2
 intro w s₀ s₁ mg mb G Y fa o pm cd doc dV kV ho hd hcd hD hmg hg args vals as hpre hlay hrd hwl hlo
 have KX := kIn_of Y
 refine Ground.open G ?_
 intro T B D TE TW
 try (refine guard_noD D (by decide +kernel) ?_; clear D)
 wrow_args hpre hlay hrd hwl hlo
 rename_i ns _ _ _ _ _ _ _ sa vs _ hL ra w1 r0 hI _ hlen _
 have hfa : fa = 221 := by
   have q := mg_of KX T.g (n := "law") (v := .ref 221) (by kernel_rfl)
   have := hmg.symm.trans q
   cases this; rfl
 subst hfa
 have hw : s₁.heap.get? sa = some { cls := .type "list", data := .seq vs.toArray } := by
   obtain ⟨o, ho, _, n, hd'⟩ := hL
   cases w1 with
   | list e r =>
     cases ho.symm.trans e
     cases hd'
     exact e
 obtain ⟨n, μ', hn, hlaw⟩ := HL ns (by omega)
 refine no_any (wpAny_mono (join KX T.g T.b T.builtins T.nolimit hw hI hn hlaw) (fun v s' p => ?_) fun _ _ x => x)
 obtain ⟨rfl, ⟨h', tk, rfl⟩, hk⟩ := p
 refine GoodW.toG ⟨.inl ⟨.bool true, .bool true, [], rfl, fun cls => ?_, .bool _, ?_, fun _ => ?_⟩, hk, rfl, hg⟩
 · rfl
 · refine postW_of (X := true) ?_ ?_ rfl <;> first | rfl | kernel_rfl
 · exact ⟨List.nodup_nil, fun a h => nomatch h⟩
end Mine
end
section
open PySem PySem.W PyProof.Rows
theorem PySem.Challenge.cw_sa0018_01_holds : PySem.Challenge.rw_sa0018_01.Holds := by
 exact Mine.holds_of Mine.L.law_true
end
end
