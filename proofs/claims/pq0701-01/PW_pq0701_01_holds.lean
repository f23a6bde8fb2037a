import PyProof.Rows.All
import Wide.All
import OpenK.AllK
import Wide.FinOn
import PyProof.AttrMissHeap
import PyProof.WalksPairs
import PyProof.EnumFor
import PyProof.EnumStmt
import PyProof.ZipIter
import PyProof.EnumMake
import PyProof.RangeFor
import PyProof.WalksMore
import KE.KTurns
import PySem.Challenge.RW_pq0701_01
open PySem PySem.W PySem.Calls PyProof.Rows
set_option Elab.async false
set_option maxRecDepth 100000
set_option linter.unusedSimpArgs false
set_option linter.all false
set_option genSizeOf false
set_option genSizeOfSpec false
set_option genInjectivity false
set_option tactic.hygienic false
set_option bootstrap.genMatcherCode false
namespace Mine
inductive V where
  | d (x : PyData)
  | o (k : Nat)
inductive Cell where
  | lst (fz : Bool) (ds : List PyData)
  | dct (kvs : List (Str × PyData))
  | ins (c : Nat) (fs : List (Nat × V))
noncomputable abbrev Sg := List Cell
noncomputable abbrev Vs := List (Option V)
inductive Out (α : Type) where
  | stuck
  | ex
  | ok (a : α) (σ : Sg)
noncomputable def Out.bind {α β : Type} (x : Out α) (f : α → Sg → Out β) : Out β := match x with
  | .stuck => .stuck
  | .ex => .ex
  | .ok a σ => f a σ
inductive BOp where
  | tuple | list | dict | str | int | len
inductive SK where
  | it
  | rng (g : Nat) (pn p : Pos)
  | enm (g : Nat) (pn p : Pos)
  | zip (g : Nat) (pn p : Pos)
inductive Tg where
  | one (i : Nat) (p : Pos)
  | many (is : List (Nat × Pos)) (k : Nat) (p : Pos)
mutual
inductive X where
  | cst (c : Const) (k : Nat) (p : Pos)
  | var (i : Nat) (p : Pos)
  | glb (g : Nat) (p : Pos)
  | tup (xs : XL) (k : Nat) (p : Pos)
  | lst (xs : XL) (p : Pos)
  | dsp (ks vs : XL) (p : Pos)
  | call (g : Nat) (pn : Pos) (xs : XL) (p : Pos)
  | bcall (b : BOp) (g : Nat) (pn : Pos) (x : X) (p : Pos)
  | meth (e : X) (a : Nat) (pa : Pos) (xs : XL) (p : Pos)
  | attr (e : X) (a : Nat) (p : Pos)
  | sub (e i : X) (p : Pos)
  | slc (e : X) (lo hi : XL) (ps p : Pos)
  | cmp (op : CmpOp) (a b : X) (p : Pos)
  | chn (a : X) (ops : List CmpOp) (xs : XL) (p : Pos)
  | bop (op : BoolOp) (xs : XL) (p : Pos)
  | bnot (e : X) (p : Pos)
  | ife (t a b : X) (p : Pos)
  | bin (op : Operator) (a b : X) (p : Pos)
  | neg (e : X) (p : Pos)
  | comp (elt : X) (tg : Tg) (sk : SK) (x y : X) (ifs : XL) (tb : List (Str × Nat)) (sc : Scope) (p : Pos)
  | dead (e : PySem.Expr)
inductive XL where
  | nil
  | cons (x : X) (xs : XL)
end
mutual
inductive S where
  | asg (i : Nat) (live : Bool) (pi : Pos) (x : X) (p : Pos)
  | asg2 (i j : Nat) (pi pj : Pos) (k : Nat) (pt : Pos) (x y : X) (k' : Nat) (pv p : Pos)
  | unp (is : List (Nat × Pos)) (k : Nat) (pt : Pos) (x : X) (p : Pos)
  | sat (e : X) (a : Nat) (live : Bool) (pa : Pos) (x : X) (p : Pos)
  | sit (e i : X) (ps : Pos) (x : X) (p : Pos)
  | xpr (x : X) (p : Pos)
  | iff (t : X) (a b : SL) (p : Pos)
  | whl (t : X) (a : SL) (p : Pos)
  | for_ (tg : Tg) (sk : SK) (x y : X) (a : SL) (p : Pos)
  | ret (x : X) (p : Pos)
  | raise (g : Nat) (pg : Pos) (x : X) (pc p : Pos)
  | try_ (a : SL) (g : Nat) (pg : Pos) (x : X) (pr ph p : Pos)
  | dead (s : PySem.Stmt)
inductive SL where
  | nil
  | cons (s : S) (r : SL)
end
inductive GK where
  | fn (f : Nat) (inl : Bool)
  | cls (c f : Nat)
  | dat (x : PyData)
  | bt
inductive AK where
  | append | extend | pop | get | split | count
  | own (c f : Nat)
  | plain
structure Tab where
  gn : Nat → Str
  gk : Nat → GK
  an : Nat → Str
  ak : Nat → AK
section
variable (T : Tab)
noncomputable def tgE (tb : List (Str × Nat)) : Tg → PySem.Expr
  | .one i p => .Name (tb.getD i default).1 p
  | .many is k p => .Tuple (is.map fun q => .Name (tb.getD q.1 default).1 q.2) k p
noncomputable def skE (sk : SK) (x y : PySem.Expr) : PySem.Expr := match sk with
  | .it => x
  | .rng g pn p => .Call (.Name (T.gn g) pn) [x] [] p
  | .enm g pn p => .Call (.Name (T.gn g) pn) [x] [] p
  | .zip g pn p => .Call (.Name (T.gn g) pn) [x, y] [] p
noncomputable def slE (lo hi : List PySem.Expr) (p : Pos) : PySem.Expr := .Slice lo.head? hi.head? none p
mutual
noncomputable def xE (tb : List (Str × Nat)) : X → PySem.Expr
  | .cst c k p => .Constant c k p
  | .var i p => .Name (tb.getD i default).1 p
  | .glb g p => .Name (T.gn g) p
  | .tup xs k p => .Tuple (xlE tb xs) k p
  | .lst xs p => .List (xlE tb xs) p
  | .dsp ks vs p => .Dict ((xlE tb ks).map some) (xlE tb vs) p
  | .call g pn xs p => .Call (.Name (T.gn g) pn) (xlE tb xs) [] p
  | .bcall _ g pn x p => .Call (.Name (T.gn g) pn) [xE tb x] [] p
  | .meth e a pa xs p => .Call (.Attribute (xE tb e) (T.an a) pa) (xlE tb xs) [] p
  | .attr e a p => .Attribute (xE tb e) (T.an a) p
  | .sub e i p => .Subscript (xE tb e) (xE tb i) p
  | .slc e lo hi ps p => .Subscript (xE tb e) (slE (xlE tb lo) (xlE tb hi) ps) p
  | .cmp op a b p => .Compare (xE tb a) [op] [xE tb b] p
  | .chn a ops xs p => .Compare (xE tb a) ops (xlE tb xs) p
  | .bop op xs p => .BoolOp op (xlE tb xs) p
  | .bnot e p => .UnaryOp .Not (xE tb e) p
  | .ife t a b p => .IfExp (xE tb t) (xE tb a) (xE tb b) p
  | .bin op a b p => .BinOp (xE tb a) op (xE tb b) p
  | .neg e p => .UnaryOp .USub (xE tb e) p
  | .comp elt tg sk x y ifs tb' sc p => .ListComp (xE tb' elt) [⟨tgE tb' tg, skE T sk (xE tb x) (xE tb y), xlE tb' ifs, 0⟩] sc p
  | .dead e => e
noncomputable def xlE (tb : List (Str × Nat)) : XL → List PySem.Expr
  | .nil => []
  | .cons x xs => xE tb x :: xlE tb xs
end
mutual
noncomputable def sE (tb : List (Str × Nat)) : S → PySem.Stmt
  | .asg i _ pi x p => .Assign [.Name (tb.getD i default).1 pi] (xE T tb x) p
  | .asg2 i j pi pj k pt x y k' pv p => .Assign [.Tuple [.Name (tb.getD i default).1 pi, .Name (tb.getD j default).1 pj] k pt] (.Tuple [xE T tb x, xE T tb y] k' pv) p
  | .unp is k pt x p => .Assign [.Tuple (is.map fun q => .Name (tb.getD q.1 default).1 q.2) k pt] (xE T tb x) p
  | .sat e a _ pa x p => .Assign [.Attribute (xE T tb e) (T.an a) pa] (xE T tb x) p
  | .sit e i ps x p => .Assign [.Subscript (xE T tb e) (xE T tb i) ps] (xE T tb x) p
  | .xpr x p => .Expr (xE T tb x) p
  | .iff t a b p => .If (xE T tb t) (slSt tb a) (slSt tb b) p
  | .whl t a p => .While (xE T tb t) (slSt tb a) [] p
  | .for_ tg sk x y a p => .For (tgE tb tg) (skE T sk (xE T tb x) (xE T tb y)) (slSt tb a) [] p
  | .ret x p => .Return (some (xE T tb x)) p
  | .raise g pg x pc p => .Raise (some (.Call (.Name (T.gn g) pg) [xE T tb x] [] pc)) none p
  | .try_ a g pg x pr ph p => .Try (slSt tb a) [.ExceptHandler (some (.Name (T.gn g) pg)) none [.Return (some (xE T tb x)) pr] ph] [] [] p
  | .dead s => s
noncomputable def slSt (tb : List (Str × Nat)) : SL → List PySem.Stmt
  | .nil => []
  | .cons s r => sE tb s :: slSt tb r
end
end
noncomputable abbrev Orc := Nat → List V → Sg → Out V
noncomputable def rd (σ : Sg) : V → Option PyData
  | .d x => some x
  | .o k => match σ[k]? with
    | some (.lst _ ds) => some (.list ds)
    | _ => none
noncomputable def esc (v : V) (σ : Sg) : Out PyData := match v with
  | .d x => .ok x σ
  | .o k => match σ[k]? with
    | some (.lst _ ds) => .ok (.list ds) (σ.set k (.lst true ds))
    | _ => .stuck
noncomputable def arg (v : V) (σ : Sg) : Out V := match v with
  | .d x => .ok (.d x) σ
  | .o k => match σ[k]? with
    | some (.lst _ ds) => .ok (.d (.list ds)) (σ.set k (.lst true ds))
    | some _ => .ok (.o k) σ
    | none => .stuck
noncomputable def items? : PyData → Option (List PyData)
  | .list ds => some ds
  | .tuple ds => some ds
  | _ => none
noncomputable def int? : PyData → Option Int
  | .int i => some i
  | _ => none
noncomputable def str? : PyData → Option Str
  | .str x => some x
  | _ => none
noncomputable def bool? : PyData → Option Bool
  | .bool b => some b
  | _ => none
noncomputable def place (n : Nat) (i : Int) : Option Nat := if (decide (n ≤ 100000) : Bool) then seqIndex? i n else none
noncomputable def cut (lo hi : Option Int) (ds : List PyData) : List PyData :=
  (ds.drop (lo.elim 0 (clipAt ds.length))).take (hi.elim ds.length (clipAt ds.length) - lo.elim 0 (clipAt ds.length))
noncomputable def put (kvs : List (Str × PyData)) (k : Str) (x : PyData) : List (Str × PyData) := match kvs with
  | [] => [(k, x)]
  | p :: r => if p.1 = k then (k, x) :: r else p :: put r k x
noncomputable def look (kvs : List (Str × PyData)) (k : Str) : Option PyData := (kvs.find? fun p => decide (p.1 = k)).map (·.2)
noncomputable def setA (fs : List (Nat × V)) (a : Nat) (v : V) : List (Nat × V) := match fs with
  | [] => [(a, v)]
  | p :: r => if p.1 = a then (a, v) :: r else p :: setA r a v
noncomputable def pairsOf : List PyData → Option (List (Str × PyData))
  | [] => some []
  | .tuple [.str k, x] :: r => (pairsOf r).map ((k, x) :: ·)
  | _ :: _ => none
noncomputable def dok (x : PyData) : Bool := decide (x.depth ≤ 900)
noncomputable def getV (vs : Vs) (i : Nat) : Option V := (vs[i]?).join
noncomputable def asI : PyData → Option Int
  | .int i => some i
  | _ => none
noncomputable def asS : PyData → Option Str
  | .str i => some i
  | _ => none
noncomputable def asL : PyData → Option (List PyData)
  | .list i => some i
  | _ => none
noncomputable def asT : PyData → Option (List PyData)
  | .tuple i => some i
  | _ => none
noncomputable def binop (op : Operator) (x y : PyData) : Option PyData := match op with
  | .Add => match x with
    | .int i => (asI y).bind fun j => some (.int (i + j))
    | .str a => (asS y).bind fun b => if (a.length + b.length ≤ 1000 : Bool) then some (.str (a ++ b)) else none
    | .list a => (asL y).bind fun b => if (a.length + b.length ≤ 100000 : Bool) then some (.list (a ++ b)) else none
    | .tuple a => (asT y).bind fun b => if (a.length + b.length ≤ 100000 : Bool) then some (.tuple (a ++ b)) else none
    | _ => none
  | .Mult => (asI y).bind fun j => match x with
    | .int i => if (decide (i.natAbs < 2 ^ 64) : Bool) then some (.int (i * j)) else none
    | .list a => if (a.length ≤ 1 && decide (0 ≤ j) && decide (j ≤ 1000) : Bool) then some (.list (List.flatten (List.replicate j.toNat a))) else none
    | _ => none
  | .Mod => (asI x).bind fun i => (asI y).bind fun j => if (decide (0 < j) : Bool) then some (.int (Int.fmod i j)) else none
  | .FloorDiv => (asI x).bind fun i => (asI y).bind fun j => if (decide (0 < j) && decide (j < 1000000000) : Bool) then some (.int (Int.fdiv i j)) else none
  | .Pow => (asI x).bind fun i => (asI y).bind fun j => if (decide (0 ≤ j) && decide (j ≤ 20) && decide (0 ≤ i) && decide (i ≤ 20) : Bool) then some (.int (i ^ j.toNat)) else none
  | _ => none
noncomputable def asN : PyData → Option Unit
  | .none => some ()
  | _ => none
noncomputable def isN : PyData → Bool
  | .none => true
  | _ => false
noncomputable def cmpop (op : CmpOp) (x y : PyData) : Option Bool := match op with
  | .Eq => if dok x then some (PyData.eqv x y) else none
  | .NotEq => if dok x then some (!PyData.eqv x y) else none
  | .Is => (asN y).bind fun _ => some (isN x)
  | .IsNot => (asN y).bind fun _ => some (!isN x)
  | .Lt => (asI x).bind fun i => (asI y).bind fun j => some (decide (i < j))
  | .LtE => (asI x).bind fun i => (asI y).bind fun j => some (decide (i ≤ j))
  | .Gt => (asI x).bind fun i => (asI y).bind fun j => some (decide (j < i))
  | .GtE => (asI x).bind fun i => (asI y).bind fun j => some (decide (j ≤ i))
  | .In => (items? y).bind fun ds => if dok x then some (ds.any fun z => PyData.eqv z x) else none
  | .NotIn => (items? y).bind fun ds => if dok x then some (!(ds.any fun z => PyData.eqv z x)) else none
noncomputable def bcallop (b : BOp) (x : PyData) : Option PyData := match b with
  | .tuple => (items? x).bind fun ds => if (decide (ds.length ≤ 100000) : Bool) then some (.tuple ds) else none
  | .list => (items? x).bind fun ds => if (decide (ds.length ≤ 100000) : Bool) then some (.list ds) else none
  | .len => (items? x).bind fun ds => if (decide (ds.length ≤ 100000) : Bool) then some (.int ds.length) else none
  | .int => match x with | .bool b => some (.int (if b then 1 else 0)) | _ => none
  | .str => match x with
    | .int i => if (decide (0 ≤ i) && decide (i < 1000000) : Bool) then some (.str (Str.ofString (toString i))) else none
    | .list ds => if (decide ((PyData.list ds).depth ≤ 900) && (PyData.list ds).showable && (PyData.str (PyData.list ds).shown).canLay0 && decide ((PyData.list ds).shown.length ≤ 100000) : Bool) then some (.str (PyData.list ds).shown) else none
    | _ => none
  | .dict => none
noncomputable def putV (vs : Vs) (i : Nat) (v : V) : Vs := vs.set i (some v)
noncomputable def putVs (vs : Vs) : List (Nat × Pos) → List PyData → Option Vs
  | [], [] => some vs
  | q :: is, x :: ds => if q.1 < vs.length then putVs (putV vs q.1 (.d x)) is ds else none
  | _, _ => none
noncomputable def bindT (vs : Vs) (tg : Tg) (x : PyData) : Option Vs := match tg with
  | .one i _ => if i < vs.length then some (putV vs i (.d x)) else none
  | .many is _ _ => match x with | .tuple ds => putVs vs is ds | _ => none
noncomputable def clearT (vs : Vs) (tg : Tg) : Vs := match tg with
  | .one i _ => vs.set i none
  | .many is _ _ => is.foldl (fun vs q => vs.set q.1 none) vs
noncomputable def enumFrom : Nat → List PyData → List PyData
  | _, [] => []
  | n, x :: r => .tuple [.int n, x] :: enumFrom (n + 1) r
noncomputable def zipD : List PyData → List PyData → List PyData
  | x :: xs, y :: ys => .tuple [x, y] :: zipD xs ys
  | _, _ => []
noncomputable def rangeD (n : Nat) : List PyData := (List.range n).map fun (k : Nat) => PyData.int (k : Int)
noncomputable def isObj : V → Bool
  | .o _ => true
  | .d _ => false
noncomputable def callF (F : Orc) (f : Nat) (inl : Bool) (args : List V) (σ : Sg) : Out V :=
  if inl || args.any isObj then F f args σ else match F f args [] with
    | .ok (.d x) _ => .ok (.d x) σ
    | .ok (.o _) _ => .stuck
    | .ex => .ex
    | .stuck => .stuck
noncomputable def callC (F : Orc) (c f : Nat) (args : List V) (σ : Sg) : Out V :=
  match F f (.o σ.length :: args) (σ ++ [.ins c []]) with
    | .ok (.d .none) σ' => .ok (.o σ.length) σ'
    | .ex => .ex
    | _ => .stuck
noncomputable def itemsOf (keep : Bool) (v : V) (σ : Sg) : Out (List PyData) :=
  if keep then (match (rd σ v).bind items? with | some ds => if (decide (ds.length ≤ 100000) : Bool) then .ok ds σ else .stuck | none => .stuck)
  else (esc v σ).bind fun x σ => match items? x with | some ds => if (decide (ds.length ≤ 100000) : Bool) then .ok ds σ else .stuck | none => .stuck
noncomputable def listOf (v : V) (σ : Sg) : Out (List PyData) := (esc v σ).bind fun x σ => match x with
  | .list ds => if (decide (ds.length ≤ 100000) : Bool) then .ok ds σ else .stuck
  | _ => .stuck
noncomputable def turns (f : Vs → Sg → Out (Option PyData)) (tg : Tg) (vs : Vs) : List PyData → Sg → Out (List PyData)
  | [], σ => .ok [] σ
  | x :: r, σ => match bindT vs tg x with
    | none => .stuck
    | some vs' => (f vs' σ).bind fun y σ => (turns f tg vs' r σ).bind fun ys σ => .ok (match y with | some y => y :: ys | none => ys) σ
noncomputable def X.isVar : X → Bool
  | .var .. => true
  | _ => false
noncomputable def XL.isNil : XL → Bool
  | .nil => true
  | .cons .. => false
noncomputable def keysOf : XL → Option (List Str)
  | .nil => some []
  | .cons (.cst (.str k) _ _) r => (keysOf r).map (k :: ·)
  | .cons _ _ => none
noncomputable def srcOf (keep : Bool) (sk : SK) (f g : Sg → Out V) (σ : Sg) : Out (List PyData) := match sk with
  | .it => (f σ).bind fun v σ => itemsOf keep v σ
  | .rng .. => (f σ).bind fun v σ => match v with
    | .d (.int n) => if (decide (0 ≤ n) && decide (n ≤ 1000) : Bool) then .ok (rangeD n.toNat) σ else .stuck
    | _ => .stuck
  | .enm .. => (f σ).bind fun v σ => (listOf v σ).bind fun ds σ => .ok (enumFrom 0 ds) σ
  | .zip .. => (f σ).bind fun v σ => (listOf v σ).bind fun ds σ => (g σ).bind fun w σ => (listOf w σ).bind fun es σ => .ok (zipD ds es) σ
noncomputable def lift (σ : Sg) (x : Option PyData) : Out V := match x with
  | some x => .ok (.d x) σ
  | none => .stuck
noncomputable def inD (op : CmpOp) (v w : V) : Option (Str × Nat) := match op, v, w with
  | .In, .d (.str x), .o k => some (x, k)
  | _, _, _ => none
noncomputable def inO (x : Str) (o : Option Cell) (σ : Sg) : Out V := match o with
  | some (.dct kvs) => .ok (.d (.bool (look kvs x).isSome)) σ
  | some (.lst _ ds) => lift σ ((cmpop .In (.str x) (.list ds)).map .bool)
  | _ => .stuck
noncomputable def cmpV (op : CmpOp) (v w : V) (σ : Sg) : Out V := match inD op v w with
  | some p => inO p.1 σ[p.2]? σ
  | none => lift σ ((rd σ v).bind fun x => (rd σ w).bind fun y => (cmpop op x y).map .bool)
noncomputable def slcV (v : V) (l h : Option Int) (σ : Sg) : Out V := match v with
    | .d (.list ds) => if (decide (ds.length ≤ 100000) : Bool) then .ok (.d (.list (cut l h ds))) σ else .stuck
    | .d (.tuple ds) => if (decide (ds.length ≤ 100000) : Bool) then .ok (.d (.tuple (cut l h ds))) σ else .stuck
    | _ => .stuck
noncomputable def subV (v w : V) (σ : Sg) : Out V := match v, w with
    | .o k, .d (.str x) => match σ[k]? with
      | some (.dct kvs) => lift σ (look kvs x)
      | _ => .stuck
    | .o _, _ => .stuck
    | .d x, .d (.int n) => lift σ ((items? x).bind fun ds => (place ds.length n).bind fun j => ds[j]?)
    | _, _ => .stuck
noncomputable def plainAt (ak : AK) (k : Nat) : Bool := match ak with
  | .plain => true
  | .own c _ => c != k
  | _ => false
noncomputable def attrV (ak : AK) (a : Nat) (v : V) (σ : Sg) : Out V := match v with
    | .o k => match σ[k]? with
      | some (.ins c fs) => match fs.lookup a with
        | some v => if plainAt ak c then .ok v σ else .stuck
        | none => .stuck
      | _ => .stuck
    | .d _ => .stuck
noncomputable def bcV (b : BOp) (v : V) (σ : Sg) : Out V := match b with
    | .dict => match (rd σ v).bind fun x => (items? x).bind fun ds => if (decide (ds.length ≤ 1000) : Bool) then pairsOf ds else none with
      | some kvs => .ok (.o σ.length) (σ ++ [.dct (kvs.foldl (fun m p => put m p.1 p.2) [])])
      | none => .stuck
    | b => lift σ ((rd σ v).bind (bcallop b))
noncomputable def splitNot (x y : Str) : Bool := (decide (x.length < y.length) || decide (Builtin.Str.strKind x < Builtin.Str.strKind y)) || (y.length != 0 && (Builtin.Str.occurrences x y 0 x.length (x.length + 1)).isEmpty)
noncomputable def atL {α : Type} (o : Option Cell) (g : List PyData → Out α) : Out α := match o with
  | some (.lst false ds) => g ds
  | _ => .stuck
noncomputable def atD {α : Type} (o : Option Cell) (g : List (Str × PyData) → Out α) : Out α := match o with
  | some (.dct kvs) => g kvs
  | _ => .stuck
noncomputable def atI {α : Type} (o : Option Cell) (g : Nat → List (Nat × V) → Out α) : Out α := match o with
  | some (.ins c fs) => g c fs
  | _ => .stuck
noncomputable def atO {α : Type} (v : V) (g : Nat → Out α) : Out α := match v with
  | .o k => g k
  | .d _ => .stuck
noncomputable def atX {α : Type} (v : V) (g : PyData → Out α) : Out α := match v with
  | .d x => g x
  | .o _ => .stuck
noncomputable def atS {α : Type} (x : PyData) (g : Str → Out α) : Out α := match x with
  | .str x => g x
  | _ => .stuck
noncomputable def at0 {α : Type} (as : List V) (g : Out α) : Out α := match as with
  | [] => g
  | _ => .stuck
noncomputable def atC {α : Type} (as : List V) (g : PyData → List V → Out α) : Out α := match as with
  | a :: r => atX a fun x => g x r
  | [] => .stuck
noncomputable def atJ {α β : Type} (o : Option β) (g : β → Out α) : Out α := match o with
  | some x => g x
  | none => .stuck
noncomputable def onJ (f : Cell → Bool) (o : Option Cell) : Bool := match o with
  | some c => f c
  | none => false
noncomputable def isC (f : Cell → Bool) (v : V) (σ : Sg) : Bool := match v with
  | .o k => onJ f σ[k]?
  | .d _ => false
noncomputable def cLst : Cell → Bool
  | .lst false _ => true
  | _ => false
noncomputable def cDct : Cell → Bool
  | .dct _ => true
  | _ => false
noncomputable def cIns (c a : Nat) : Cell → Bool
  | .ins c' fs => c == c' && (fs.lookup a).isNone
  | _ => false
noncomputable def isSt : V → Bool
  | .d (.str _) => true
  | _ => false
noncomputable def okRecv (ak : AK) (a : Nat) (v : V) (σ : Sg) : Bool := match ak with
  | .append => isC cLst v σ
  | .extend => isC cLst v σ
  | .pop => isC cLst v σ
  | .get => isC cDct v σ
  | .split => isSt v
  | .count => isSt v
  | .own c _ => isC (cIns c a) v σ
  | .plain => false
noncomputable def methV (F : Orc) (ak : AK) (v : V) (as : List V) (σ : Sg) : Out V := match ak with
  | .append => atO v fun k => atC as fun x r => at0 r (atL σ[k]? fun ds => if ds.length < 100000 then .ok (.d .none) (σ.set k (.lst false (ds ++ [x]))) else .stuck)
  | .extend => atO v fun k => atC as fun x r => at0 r (atL σ[k]? fun ds => atJ (items? x) fun es => if ds.length + es.length < 100000 then .ok (.d .none) (σ.set k (.lst false (ds ++ es))) else .stuck)
  | .pop => atO v fun k => at0 as (atL σ[k]? fun ds => atJ ds.getLast? fun x => if (decide (ds.length ≤ 100000) : Bool) then .ok (.d x) (σ.set k (.lst false ds.dropLast)) else .stuck)
  | .get => atO v fun k => atC as fun x r => atS x fun x => atC r fun y r => at0 r (atD σ[k]? fun kvs => .ok (.d ((look kvs x).getD y)) σ)
  | .split => atX v fun x => atS x fun x => atC as fun y r => atS y fun y => at0 r (if splitNot x y then .ok (.d (.list [.str x])) σ else .stuck)
  | .count => atX v fun x => atS x fun x => atC as fun y r => atS y fun y => at0 r (.ok (.d (.int (Txt.count x y))) σ)
  | .own c f => atO v fun k => atI σ[k]? fun c' _ => if c = c' then F f (.o k :: as) σ else .stuck
  | .plain => .stuck
section
variable (T : Tab) (F : Orc)
mutual
noncomputable def ev (vs : Vs) : X → Sg → Out V
  | .cst c _ _, σ => match c with
    | .none => .ok (.d .none) σ
    | .bool b => .ok (.d (.bool b)) σ
    | .int i => .ok (.d (.int i)) σ
    | .str x => .ok (.d (.str x)) σ
    | _ => .stuck
  | .var i _, σ => match getV vs i with
    | some v => .ok v σ
    | none => .stuck
  | .glb g _, σ => match T.gk g with
    | .dat x => .ok (.d x) σ
    | _ => .stuck
  | .tup xs _ _, σ => (evD vs xs σ).bind fun ds σ => .ok (.d (.tuple ds)) σ
  | .lst xs _, σ => (evD vs xs σ).bind fun ds σ => .ok (.d (.list ds)) σ
  | .dsp ks xs _, σ => (evD vs xs σ).bind fun ds σ => match keysOf ks with
    | some l => if l.length = ds.length then .ok (.o σ.length) (σ ++ [.dct ((l.zip ds).foldl (fun m p => put m p.1 p.2) [])]) else .stuck
    | none => .stuck
  | .call g _ xs _, σ => (evA vs xs σ).bind fun as σ => match T.gk g with
    | .fn f inl => callF F f inl as σ
    | .cls c f => callC F c f as σ
    | _ => .stuck
  | .bcall b _ _ x _, σ => (ev vs x σ).bind fun v σ => bcV b v σ
  | .meth e a _ xs _, σ => (ev vs e σ).bind fun v σ => if okRecv (T.ak a) a v σ then (evA vs xs σ).bind fun as σ => methV F (T.ak a) v as σ else .stuck
  | .attr e a _, σ => (ev vs e σ).bind fun v σ => attrV (T.ak a) a v σ
  | .sub e i _, σ => (ev vs e σ).bind fun v σ => (ev vs i σ).bind fun w σ => subV v w σ
  | .slc e lo hi _ _, σ => (ev vs e σ).bind fun v σ => (evI vs lo σ).bind fun l σ => (evI vs hi σ).bind fun h σ => slcV v l h σ
  | .cmp op a b _, σ => (ev vs a σ).bind fun v σ => (ev vs b σ).bind fun w σ => cmpV op v w σ
  | .bop op xs _, σ => evB vs op xs σ
  | .bnot e _, σ => (ev vs e σ).bind fun v σ => match v with
    | .d (.bool b) => .ok (.d (.bool (!b))) σ
    | _ => .stuck
  | .ife t a b _, σ => (ev vs t σ).bind fun v σ => match v with
    | .d (.bool true) => ev vs a σ
    | .d (.bool false) => ev vs b σ
    | _ => .stuck
  | .bin op a b _, σ => (ev vs a σ).bind fun v σ => (ev vs b σ).bind fun w σ => lift σ ((rd σ v).bind fun x => (rd σ w).bind fun y => binop op x y)
  | .neg e _, σ => (ev vs e σ).bind fun v σ => match v with
    | .d (.int i) => .ok (.d (.int (-i))) σ
    | _ => .stuck
  | .comp elt tg sk x y ifs _ _ _, σ => (srcOf (elt.isVar && ifs.isNil) sk (fun σ => ev vs x σ) (fun σ => ev vs y σ) σ).bind fun ds σ =>
      (turns (fun vs σ => (evC vs ifs σ).bind fun b σ => match b with
        | true => (ev vs elt σ).bind fun v σ => (esc v σ).bind fun y σ => .ok (some y) σ
        | false => .ok none σ) tg vs ds σ).bind fun ys σ => .ok (.d (.list ys)) σ
  | .chn .., _ => .stuck
  | .dead _, _ => .stuck
noncomputable def evD (vs : Vs) : XL → Sg → Out (List PyData)
  | .nil, σ => .ok [] σ
  | .cons x xs, σ => (ev vs x σ).bind fun v σ => (esc v σ).bind fun y σ => (evD vs xs σ).bind fun ys σ => .ok (y :: ys) σ
noncomputable def evA (vs : Vs) : XL → Sg → Out (List V)
  | .nil, σ => .ok [] σ
  | .cons x xs, σ => (ev vs x σ).bind fun v σ => (arg v σ).bind fun y σ => (evA vs xs σ).bind fun ys σ => .ok (y :: ys) σ
noncomputable def evI (vs : Vs) : XL → Sg → Out (Option Int)
  | .nil, σ => .ok none σ
  | .cons x .nil, σ => (ev vs x σ).bind fun v σ => match v with
    | .d (.int i) => .ok (some i) σ
    | _ => .stuck
  | _, _ => .stuck
noncomputable def evB (vs : Vs) (op : BoolOp) : XL → Sg → Out V
  | .nil, _ => .stuck
  | .cons x .nil, σ => (ev vs x σ).bind fun v σ => match v with
    | .d (.bool b) => .ok (.d (.bool b)) σ
    | _ => .stuck
  | .cons x (.cons y r), σ => (ev vs x σ).bind fun v σ => match op, v with
    | .And, .d (.bool false) => .ok (.d (.bool false)) σ
    | .Or, .d (.bool true) => .ok (.d (.bool true)) σ
    | .And, .d (.bool true) => evB vs op (.cons y r) σ
    | .Or, .d (.bool false) => evB vs op (.cons y r) σ
    | _, _ => .stuck
noncomputable def evC (vs : Vs) : XL → Sg → Out Bool
  | .nil, σ => .ok true σ
  | .cons x .nil, σ => (ev vs x σ).bind fun v σ => match v with
    | .d (.bool b) => .ok b σ
    | _ => .stuck
  | _, _ => .stuck
end
noncomputable def evN (vs : Vs) (x : X) (σ : Sg) : Out V := match x with
  | .lst xs _ => (evD T F vs xs σ).bind fun ds σ => .ok (.o σ.length) (σ ++ [.lst false ds])
  | .bin .Add a b p => (ev T F vs (.bin .Add a b p) σ).bind fun v σ => match v with
    | .d (.list ds) => .ok (.o σ.length) (σ ++ [.lst false ds])
    | _ => .stuck
  | x => ev T F vs x σ
inductive Fl where
  | next (vs : Vs)
  | ret (v : V)
noncomputable def goes (f : Vs → Sg → Out Fl) (tg : Tg) : List PyData → Vs → Sg → Out Fl
  | [], vs, σ => .ok (.next vs) σ
  | x :: r, vs, σ => match bindT vs tg x with
    | none => .stuck
    | some vs' => (f vs' σ).bind fun fl σ => match fl with
      | .next vs => goes f tg r vs σ
      | .ret v => .ok (.ret v) σ
noncomputable def whiles (t : Vs → Sg → Out V) (f : Vs → Sg → Out Fl) : Nat → Vs → Sg → Out Fl
  | 0, _, _ => .stuck
  | n + 1, vs, σ => (t vs σ).bind fun v σ => match v with
    | .d (.bool true) => (f vs σ).bind fun fl σ => match fl with
      | .next vs => whiles t f n vs σ
      | .ret v => .ok (.ret v) σ
    | .d (.bool false) => .ok (.next vs) σ
    | _ => .stuck
mutual
noncomputable def exS : S → Vs → Sg → Out Fl
  | .asg i live _ x _, vs, σ => (if live then evN T F vs x σ else ev T F vs x σ).bind fun v σ => if i < vs.length then .ok (.next (putV vs i v)) σ else .stuck
  | .asg2 i j _ _ _ _ x y _ _ _, vs, σ => (evN T F vs x σ).bind fun v σ => (evN T F vs y σ).bind fun w σ => if i < vs.length && j < vs.length then .ok (.next (putV (putV vs i v) j w)) σ else .stuck
  | .unp is _ _ x _, vs, σ => (ev T F vs x σ).bind fun v σ => match v with
    | .d (.tuple ds) => match putVs vs is ds with
      | some vs => .ok (.next vs) σ
      | none => .stuck
    | _ => .stuck
  | .sat e a live _ x _, vs, σ => (if live then evN T F vs x σ else ev T F vs x σ).bind fun v σ => (ev T F vs e σ).bind fun w σ => match w with
    | .o k => match σ[k]? with
      | some (.ins c fs) => if plainAt (T.ak a) c && decide (fs.length < 50) then .ok (.next vs) (σ.set k (.ins c (setA fs a v))) else .stuck
      | _ => .stuck
    | _ => .stuck
  | .sit e i _ x _, vs, σ => (ev T F vs x σ).bind fun v σ => (esc v σ).bind fun y σ => (ev T F vs e σ).bind fun w σ => (ev T F vs i σ).bind fun u σ => match w, u with
    | .o k, .d (.str s) => match σ[k]? with
      | some (.dct kvs) => if kvs.length < 1000 then .ok (.next vs) (σ.set k (.dct (put kvs s y))) else .stuck
      | _ => .stuck
    | _, _ => .stuck
  | .xpr x _, vs, σ => (ev T F vs x σ).bind fun _ σ => .ok (.next vs) σ
  | .iff t a b _, vs, σ => (ev T F vs t σ).bind fun v σ => match v with
    | .d (.bool true) => exL a vs σ
    | .d (.bool false) => exL b vs σ
    | _ => .stuck
  | .whl t a _, vs, σ => whiles (fun vs σ => ev T F vs t σ) (fun vs σ => exL a vs σ) 200 vs σ
  | .for_ tg sk x y a _, vs, σ => (srcOf false sk (fun σ => ev T F vs x σ) (fun σ => ev T F vs y σ) σ).bind fun ds σ => goes (fun vs σ => exL a vs σ) tg ds vs σ
  | .ret x _, vs, σ => (ev T F vs x σ).bind fun v σ => (arg v σ).bind fun w σ => .ok (.ret w) σ
  | .raise _ _ x _ _, vs, σ => (ev T F vs x σ).bind fun v _ => match v with
    | .d (.str _) => .ex
    | _ => .stuck
  | .try_ a _ _ x _ _ _, vs, σ => match exL a vs σ with
    | .ex => match x, σ with
      | .cst .none _ _, [] => .ok (.ret (.d .none)) []
      | _, _ => .stuck
    | r => r
  | .dead _, _, _ => .stuck
noncomputable def exL : SL → Vs → Sg → Out Fl
  | .nil, vs, σ => .ok (.next vs) σ
  | .cons s r, vs, σ => (exS s vs σ).bind fun fl σ => match fl with
    | .next vs => exL r vs σ
    | .ret v => .ok (.ret v) σ
end
end
structure Fn where
  np : Nat
  tb : List (Str × Nat)
  body : SL
noncomputable def runFn (T : Tab) (F : Orc) (f : Fn) (as : List V) (σ : Sg) : Out V :=
  if as.length = f.np then (exL T F f.body (as.map some ++ List.replicate (f.tb.length - f.np) none) σ).bind fun fl σ => match fl with
    | .next _ => .ok (.d .none) σ
    | .ret v => .ok v σ
  else .stuck
noncomputable def runN (T : Tab) (fs : List Fn) : Nat → Orc
  | 0, _, _, _ => .stuck
  | n + 1, i, as, σ => match fs[i]? with
    | some f => runFn T (runN T fs n) f as σ
    | none => .stuck
theorem q_evI_2 (T : Tab) (F : Orc) (vs : Vs) x y r (σ : Sg) : evI T F vs (.cons x (.cons y r)) σ = .stuck := rfl
theorem q_evC_2 (T : Tab) (F : Orc) (vs : Vs) x y r (σ : Sg) : evC T F vs (.cons x (.cons y r)) σ = .stuck := rfl
theorem q_ev_0 (T : Tab) (F : Orc) (vs : Vs) c z1 z2 (σ : Sg) : ev T F vs (.cst c z1 z2) σ = (match c with
    | .none => .ok (.d .none) σ
    | .bool b => .ok (.d (.bool b)) σ
    | .int i => .ok (.d (.int i)) σ
    | .str x => .ok (.d (.str x)) σ
    | _ => .stuck) := rfl
theorem q_ev_1 (T : Tab) (F : Orc) (vs : Vs) i z1 (σ : Sg) : ev T F vs (.var i z1) σ = (match getV vs i with
    | some v => .ok v σ
    | none => .stuck) := rfl
theorem q_ev_2 (T : Tab) (F : Orc) (vs : Vs) g z1 (σ : Sg) : ev T F vs (.glb g z1) σ = (match T.gk g with
    | .dat x => .ok (.d x) σ
    | _ => .stuck) := rfl
theorem q_ev_3 (T : Tab) (F : Orc) (vs : Vs) xs z1 z2 (σ : Sg) : ev T F vs (.tup xs z1 z2) σ = ((evD T F vs xs σ).bind fun ds σ => .ok (.d (.tuple ds)) σ) := rfl
theorem q_ev_4 (T : Tab) (F : Orc) (vs : Vs) xs z1 (σ : Sg) : ev T F vs (.lst xs z1) σ = ((evD T F vs xs σ).bind fun ds σ => .ok (.d (.list ds)) σ) := rfl
theorem q_ev_5 (T : Tab) (F : Orc) (vs : Vs) ks xs z1 (σ : Sg) : ev T F vs (.dsp ks xs z1) σ = ((evD T F vs xs σ).bind fun ds σ => match keysOf ks with
    | some l => if l.length = ds.length then .ok (.o σ.length) (σ ++ [.dct ((l.zip ds).foldl (fun m p => put m p.1 p.2) [])]) else .stuck
    | none => .stuck) := rfl
theorem q_ev_6 (T : Tab) (F : Orc) (vs : Vs) g z1 xs z2 (σ : Sg) : ev T F vs (.call g z1 xs z2) σ = ((evA T F vs xs σ).bind fun as σ => match T.gk g with
    | .fn f inl => callF F f inl as σ
    | .cls c f => callC F c f as σ
    | _ => .stuck) := rfl
theorem q_ev_7 (T : Tab) (F : Orc) (vs : Vs) b z1 z2 x z3 (σ : Sg) : ev T F vs (.bcall b z1 z2 x z3) σ = ((ev T F vs x σ).bind fun v σ => bcV b v σ) := rfl
theorem q_ev_8 (T : Tab) (F : Orc) (vs : Vs) e a z1 xs z2 (σ : Sg) : ev T F vs (.meth e a z1 xs z2) σ = ((ev T F vs e σ).bind fun v σ => if okRecv (T.ak a) a v σ then (evA T F vs xs σ).bind fun as σ => methV F (T.ak a) v as σ else .stuck) := rfl
theorem q_ev_9 (T : Tab) (F : Orc) (vs : Vs) e a z1 (σ : Sg) : ev T F vs (.attr e a z1) σ = ((ev T F vs e σ).bind fun v σ => attrV (T.ak a) a v σ) := rfl
theorem q_ev_10 (T : Tab) (F : Orc) (vs : Vs) e i z1 (σ : Sg) : ev T F vs (.sub e i z1) σ = ((ev T F vs e σ).bind fun v σ => (ev T F vs i σ).bind fun w σ => subV v w σ) := rfl
theorem q_ev_11 (T : Tab) (F : Orc) (vs : Vs) e lo hi z1 z2 (σ : Sg) : ev T F vs (.slc e lo hi z1 z2) σ = ((ev T F vs e σ).bind fun v σ => (evI T F vs lo σ).bind fun l σ => (evI T F vs hi σ).bind fun h σ => slcV v l h σ) := rfl
theorem q_ev_12 (T : Tab) (F : Orc) (vs : Vs) op a b z1 (σ : Sg) : ev T F vs (.cmp op a b z1) σ = ((ev T F vs a σ).bind fun v σ => (ev T F vs b σ).bind fun w σ => cmpV op v w σ) := rfl
theorem q_ev_13 (T : Tab) (F : Orc) (vs : Vs) op xs z1 (σ : Sg) : ev T F vs (.bop op xs z1) σ = (evB T F vs op xs σ) := rfl
theorem q_ev_14 (T : Tab) (F : Orc) (vs : Vs) e z1 (σ : Sg) : ev T F vs (.bnot e z1) σ = ((ev T F vs e σ).bind fun v σ => match v with
    | .d (.bool b) => .ok (.d (.bool (!b))) σ
    | _ => .stuck) := rfl
theorem q_ev_15 (T : Tab) (F : Orc) (vs : Vs) t a b z1 (σ : Sg) : ev T F vs (.ife t a b z1) σ = ((ev T F vs t σ).bind fun v σ => match v with
    | .d (.bool true) => ev T F vs a σ
    | .d (.bool false) => ev T F vs b σ
    | _ => .stuck) := rfl
theorem q_ev_16 (T : Tab) (F : Orc) (vs : Vs) op a b z1 (σ : Sg) : ev T F vs (.bin op a b z1) σ = ((ev T F vs a σ).bind fun v σ => (ev T F vs b σ).bind fun w σ => lift σ ((rd σ v).bind fun x => (rd σ w).bind fun y => binop op x y)) := rfl
theorem q_ev_17 (T : Tab) (F : Orc) (vs : Vs) e z1 (σ : Sg) : ev T F vs (.neg e z1) σ = ((ev T F vs e σ).bind fun v σ => match v with
    | .d (.int i) => .ok (.d (.int (-i))) σ
    | _ => .stuck) := rfl
theorem q_ev_18 (T : Tab) (F : Orc) (vs : Vs) elt tg sk x y ifs z1 z2 z3 (σ : Sg) : ev T F vs (.comp elt tg sk x y ifs z1 z2 z3) σ = ((srcOf (elt.isVar && ifs.isNil) sk (fun σ => ev T F vs x σ) (fun σ => ev T F vs y σ) σ).bind fun ds σ =>
      (turns (fun vs σ => (evC T F vs ifs σ).bind fun b σ => match b with
        | true => (ev T F vs elt σ).bind fun v σ => (esc v σ).bind fun y σ => .ok (some y) σ
        | false => .ok none σ) tg vs ds σ).bind fun ys σ => .ok (.d (.list ys)) σ) := rfl
theorem q_ev_19 (T : Tab) (F : Orc) (vs : Vs) z1 z2 z3 z4 z5 : ev T F vs (.chn z1 z2 z3 z4) z5 = (.stuck) := rfl
theorem q_ev_20 (T : Tab) (F : Orc) (vs : Vs) z1 z2 : ev T F vs (.dead z1) z2 = (.stuck) := rfl
theorem q_evD_0 (T : Tab) (F : Orc) (vs : Vs) (σ : Sg) : evD T F vs .nil σ = (.ok [] σ) := rfl
theorem q_evD_1 (T : Tab) (F : Orc) (vs : Vs) x xs (σ : Sg) : evD T F vs (.cons x xs) σ = ((ev T F vs x σ).bind fun v σ => (esc v σ).bind fun y σ => (evD T F vs xs σ).bind fun ys σ => .ok (y :: ys) σ) := rfl
theorem q_evA_0 (T : Tab) (F : Orc) (vs : Vs) (σ : Sg) : evA T F vs .nil σ = (.ok [] σ) := rfl
theorem q_evA_1 (T : Tab) (F : Orc) (vs : Vs) x xs (σ : Sg) : evA T F vs (.cons x xs) σ = ((ev T F vs x σ).bind fun v σ => (arg v σ).bind fun y σ => (evA T F vs xs σ).bind fun ys σ => .ok (y :: ys) σ) := rfl
theorem q_evC_0 (T : Tab) (F : Orc) (vs : Vs) (σ : Sg) : evC T F vs .nil σ = (.ok true σ) := rfl
theorem q_evC_1 (T : Tab) (F : Orc) (vs : Vs) x (σ : Sg) : evC T F vs (.cons x .nil) σ = ((ev T F vs x σ).bind fun v σ => match v with
    | .d (.bool b) => .ok b σ
    | _ => .stuck) := rfl
theorem q_evI_0 (T : Tab) (F : Orc) (vs : Vs) (σ : Sg) : evI T F vs .nil σ = (.ok none σ) := rfl
theorem q_evI_1 (T : Tab) (F : Orc) (vs : Vs) x (σ : Sg) : evI T F vs (.cons x .nil) σ = ((ev T F vs x σ).bind fun v σ => match v with
    | .d (.int i) => .ok (some i) σ
    | _ => .stuck) := rfl
theorem q_evB_0 (T : Tab) (F : Orc) (vs : Vs) (op : BoolOp) z1 : evB T F vs op .nil z1 = (.stuck) := rfl
theorem q_evB_1 (T : Tab) (F : Orc) (vs : Vs) (op : BoolOp) x (σ : Sg) : evB T F vs op (.cons x .nil) σ = ((ev T F vs x σ).bind fun v σ => match v with
    | .d (.bool b) => .ok (.d (.bool b)) σ
    | _ => .stuck) := rfl
theorem q_evB_2 (T : Tab) (F : Orc) (vs : Vs) (op : BoolOp) x y r (σ : Sg) : evB T F vs op (.cons x (.cons y r)) σ = ((ev T F vs x σ).bind fun v σ => match op, v with
    | .And, .d (.bool false) => .ok (.d (.bool false)) σ
    | .Or, .d (.bool true) => .ok (.d (.bool true)) σ
    | .And, .d (.bool true) => evB T F vs op (.cons y r) σ
    | .Or, .d (.bool false) => evB T F vs op (.cons y r) σ
    | _, _ => .stuck) := rfl
theorem q_xE_0 (T : Tab) (tb : List (Str × Nat)) c k p : xE T tb (.cst c k p) = (.Constant c k p) := rfl
theorem q_xE_1 (T : Tab) (tb : List (Str × Nat)) i p : xE T tb (.var i p) = (.Name (tb.getD i default).1 p) := rfl
theorem q_xE_2 (T : Tab) (tb : List (Str × Nat)) g p : xE T tb (.glb g p) = (.Name (T.gn g) p) := rfl
theorem q_xE_3 (T : Tab) (tb : List (Str × Nat)) xs k p : xE T tb (.tup xs k p) = (.Tuple (xlE T tb xs) k p) := rfl
theorem q_xE_4 (T : Tab) (tb : List (Str × Nat)) xs p : xE T tb (.lst xs p) = (.List (xlE T tb xs) p) := rfl
theorem q_xE_5 (T : Tab) (tb : List (Str × Nat)) ks vs p : xE T tb (.dsp ks vs p) = (.Dict ((xlE T tb ks).map some) (xlE T tb vs) p) := rfl
theorem q_xE_6 (T : Tab) (tb : List (Str × Nat)) g pn xs p : xE T tb (.call g pn xs p) = (.Call (.Name (T.gn g) pn) (xlE T tb xs) [] p) := rfl
theorem q_xE_7 (T : Tab) (tb : List (Str × Nat)) z1 g pn x p : xE T tb (.bcall z1 g pn x p) = (.Call (.Name (T.gn g) pn) [xE T tb x] [] p) := rfl
theorem q_xE_8 (T : Tab) (tb : List (Str × Nat)) e a pa xs p : xE T tb (.meth e a pa xs p) = (.Call (.Attribute (xE T tb e) (T.an a) pa) (xlE T tb xs) [] p) := rfl
theorem q_xE_9 (T : Tab) (tb : List (Str × Nat)) e a p : xE T tb (.attr e a p) = (.Attribute (xE T tb e) (T.an a) p) := rfl
theorem q_xE_10 (T : Tab) (tb : List (Str × Nat)) e i p : xE T tb (.sub e i p) = (.Subscript (xE T tb e) (xE T tb i) p) := rfl
theorem q_xE_11 (T : Tab) (tb : List (Str × Nat)) e lo hi ps p : xE T tb (.slc e lo hi ps p) = (.Subscript (xE T tb e) (slE (xlE T tb lo) (xlE T tb hi) ps) p) := rfl
theorem q_xE_12 (T : Tab) (tb : List (Str × Nat)) op a b p : xE T tb (.cmp op a b p) = (.Compare (xE T tb a) [op] [xE T tb b] p) := rfl
theorem q_xE_13 (T : Tab) (tb : List (Str × Nat)) a ops xs p : xE T tb (.chn a ops xs p) = (.Compare (xE T tb a) ops (xlE T tb xs) p) := rfl
theorem q_xE_14 (T : Tab) (tb : List (Str × Nat)) op xs p : xE T tb (.bop op xs p) = (.BoolOp op (xlE T tb xs) p) := rfl
theorem q_xE_15 (T : Tab) (tb : List (Str × Nat)) e p : xE T tb (.bnot e p) = (.UnaryOp .Not (xE T tb e) p) := rfl
theorem q_xE_16 (T : Tab) (tb : List (Str × Nat)) t a b p : xE T tb (.ife t a b p) = (.IfExp (xE T tb t) (xE T tb a) (xE T tb b) p) := rfl
theorem q_xE_17 (T : Tab) (tb : List (Str × Nat)) op a b p : xE T tb (.bin op a b p) = (.BinOp (xE T tb a) op (xE T tb b) p) := rfl
theorem q_xE_18 (T : Tab) (tb : List (Str × Nat)) e p : xE T tb (.neg e p) = (.UnaryOp .USub (xE T tb e) p) := rfl
theorem q_xE_19 (T : Tab) (tb : List (Str × Nat)) elt tg sk x y ifs tb' sc p : xE T tb (.comp elt tg sk x y ifs tb' sc p) = (.ListComp (xE T tb' elt) [⟨tgE tb' tg, skE T sk (xE T tb x) (xE T tb y), xlE T tb' ifs, 0⟩] sc p) := rfl
theorem q_xE_20 (T : Tab) (tb : List (Str × Nat)) e : xE T tb (.dead e) = (e) := rfl
theorem q_xlE_0 (T : Tab) (tb : List (Str × Nat)) : xlE T tb .nil = ([]) := rfl
theorem q_xlE_1 (T : Tab) (tb : List (Str × Nat)) x xs : xlE T tb (.cons x xs) = (xE T tb x :: xlE T tb xs) := rfl
theorem q_sE_0 (T : Tab) (tb : List (Str × Nat)) i z1 pi x p : sE T tb (.asg i z1 pi x p) = (.Assign [.Name (tb.getD i default).1 pi] (xE T tb x) p) := rfl
theorem q_sE_1 (T : Tab) (tb : List (Str × Nat)) i j pi pj k pt x y k' pv p : sE T tb (.asg2 i j pi pj k pt x y k' pv p) = (.Assign [.Tuple [.Name (tb.getD i default).1 pi, .Name (tb.getD j default).1 pj] k pt] (.Tuple [xE T tb x, xE T tb y] k' pv) p) := rfl
theorem q_sE_2 (T : Tab) (tb : List (Str × Nat)) is k pt x p : sE T tb (.unp is k pt x p) = (.Assign [.Tuple (is.map fun q => .Name (tb.getD q.1 default).1 q.2) k pt] (xE T tb x) p) := rfl
theorem q_sE_3 (T : Tab) (tb : List (Str × Nat)) e a z1 pa x p : sE T tb (.sat e a z1 pa x p) = (.Assign [.Attribute (xE T tb e) (T.an a) pa] (xE T tb x) p) := rfl
theorem q_sE_4 (T : Tab) (tb : List (Str × Nat)) e i ps x p : sE T tb (.sit e i ps x p) = (.Assign [.Subscript (xE T tb e) (xE T tb i) ps] (xE T tb x) p) := rfl
theorem q_sE_5 (T : Tab) (tb : List (Str × Nat)) x p : sE T tb (.xpr x p) = (.Expr (xE T tb x) p) := rfl
theorem q_sE_6 (T : Tab) (tb : List (Str × Nat)) t a b p : sE T tb (.iff t a b p) = (.If (xE T tb t) (slSt T tb a) (slSt T tb b) p) := rfl
theorem q_sE_7 (T : Tab) (tb : List (Str × Nat)) t a p : sE T tb (.whl t a p) = (.While (xE T tb t) (slSt T tb a) [] p) := rfl
theorem q_sE_8 (T : Tab) (tb : List (Str × Nat)) tg sk x y a p : sE T tb (.for_ tg sk x y a p) = (.For (tgE tb tg) (skE T sk (xE T tb x) (xE T tb y)) (slSt T tb a) [] p) := rfl
theorem q_sE_9 (T : Tab) (tb : List (Str × Nat)) x p : sE T tb (.ret x p) = (.Return (some (xE T tb x)) p) := rfl
theorem q_sE_10 (T : Tab) (tb : List (Str × Nat)) g pg x pc p : sE T tb (.raise g pg x pc p) = (.Raise (some (.Call (.Name (T.gn g) pg) [xE T tb x] [] pc)) none p) := rfl
theorem q_sE_11 (T : Tab) (tb : List (Str × Nat)) a g pg x pr ph p : sE T tb (.try_ a g pg x pr ph p) = (.Try (slSt T tb a) [.ExceptHandler (some (.Name (T.gn g) pg)) none [.Return (some (xE T tb x)) pr] ph] [] [] p) := rfl
theorem q_sE_12 (T : Tab) (tb : List (Str × Nat)) s : sE T tb (.dead s) = (s) := rfl
theorem q_slSt_0 (T : Tab) (tb : List (Str × Nat)) : slSt T tb .nil = ([]) := rfl
theorem q_slSt_1 (T : Tab) (tb : List (Str × Nat)) s r : slSt T tb (.cons s r) = (sE T tb s :: slSt T tb r) := rfl
theorem q_exS_0 (T : Tab) (F : Orc) i live z1 x z2 (vs : Vs) (σ : Sg) : exS T F (.asg i live z1 x z2) vs σ = ((if live then evN T F vs x σ else ev T F vs x σ).bind fun v σ => if i < vs.length then .ok (.next (putV vs i v)) σ else .stuck) := rfl
theorem q_exS_1 (T : Tab) (F : Orc) i j z1 z2 z3 z4 x y z5 z6 z7 (vs : Vs) (σ : Sg) : exS T F (.asg2 i j z1 z2 z3 z4 x y z5 z6 z7) vs σ = ((evN T F vs x σ).bind fun v σ => (evN T F vs y σ).bind fun w σ => if i < vs.length && j < vs.length then .ok (.next (putV (putV vs i v) j w)) σ else .stuck) := rfl
theorem q_exS_2 (T : Tab) (F : Orc) is z1 z2 x z3 (vs : Vs) (σ : Sg) : exS T F (.unp is z1 z2 x z3) vs σ = ((ev T F vs x σ).bind fun v σ => match v with
    | .d (.tuple ds) => match putVs vs is ds with
      | some vs => .ok (.next vs) σ
      | none => .stuck
    | _ => .stuck) := rfl
theorem q_exS_3 (T : Tab) (F : Orc) e a live z1 x z2 (vs : Vs) (σ : Sg) : exS T F (.sat e a live z1 x z2) vs σ = ((if live then evN T F vs x σ else ev T F vs x σ).bind fun v σ => (ev T F vs e σ).bind fun w σ => match w with
    | .o k => match σ[k]? with
      | some (.ins c fs) => if plainAt (T.ak a) c && decide (fs.length < 50) then .ok (.next vs) (σ.set k (.ins c (setA fs a v))) else .stuck
      | _ => .stuck
    | _ => .stuck) := rfl
theorem q_exS_4 (T : Tab) (F : Orc) e i z1 x z2 (vs : Vs) (σ : Sg) : exS T F (.sit e i z1 x z2) vs σ = ((ev T F vs x σ).bind fun v σ => (esc v σ).bind fun y σ => (ev T F vs e σ).bind fun w σ => (ev T F vs i σ).bind fun u σ => match w, u with
    | .o k, .d (.str s) => match σ[k]? with
      | some (.dct kvs) => if kvs.length < 1000 then .ok (.next vs) (σ.set k (.dct (put kvs s y))) else .stuck
      | _ => .stuck
    | _, _ => .stuck) := rfl
theorem q_exS_5 (T : Tab) (F : Orc) x z1 (vs : Vs) (σ : Sg) : exS T F (.xpr x z1) vs σ = ((ev T F vs x σ).bind fun _ σ => .ok (.next vs) σ) := rfl
theorem q_exS_6 (T : Tab) (F : Orc) t a b z1 (vs : Vs) (σ : Sg) : exS T F (.iff t a b z1) vs σ = ((ev T F vs t σ).bind fun v σ => match v with
    | .d (.bool true) => exL T F a vs σ
    | .d (.bool false) => exL T F b vs σ
    | _ => .stuck) := rfl
theorem q_exS_7 (T : Tab) (F : Orc) t a z1 (vs : Vs) (σ : Sg) : exS T F (.whl t a z1) vs σ = (whiles (fun vs σ => ev T F vs t σ) (fun vs σ => exL T F a vs σ) 200 vs σ) := rfl
theorem q_exS_8 (T : Tab) (F : Orc) tg sk x y a z1 (vs : Vs) (σ : Sg) : exS T F (.for_ tg sk x y a z1) vs σ = ((srcOf false sk (fun σ => ev T F vs x σ) (fun σ => ev T F vs y σ) σ).bind fun ds σ => goes (fun vs σ => exL T F a vs σ) tg ds vs σ) := rfl
theorem q_exS_9 (T : Tab) (F : Orc) x z1 (vs : Vs) (σ : Sg) : exS T F (.ret x z1) vs σ = ((ev T F vs x σ).bind fun v σ => (arg v σ).bind fun w σ => .ok (.ret w) σ) := rfl
theorem q_exS_10 (T : Tab) (F : Orc) z1 z2 x z3 z4 (vs : Vs) (σ : Sg) : exS T F (.raise z1 z2 x z3 z4) vs σ = ((ev T F vs x σ).bind fun v _ => match v with
    | .d (.str _) => .ex
    | _ => .stuck) := rfl
theorem q_exS_11 (T : Tab) (F : Orc) a z1 z2 x z3 z4 z5 (vs : Vs) (σ : Sg) : exS T F (.try_ a z1 z2 x z3 z4 z5) vs σ = (match exL T F a vs σ with
    | .ex => match x, σ with
      | .cst .none _ _, [] => .ok (.ret (.d .none)) []
      | _, _ => .stuck
    | r => r) := rfl
theorem q_exS_12 (T : Tab) (F : Orc) z1 z2 z3 : exS T F (.dead z1) z2 z3 = (.stuck) := rfl
theorem q_exL_0 (T : Tab) (F : Orc) (vs : Vs) (σ : Sg) : exL T F .nil vs σ = (.ok (.next vs) σ) := rfl
theorem q_exL_1 (T : Tab) (F : Orc) s r (vs : Vs) (σ : Sg) : exL T F (.cons s r) vs σ = ((exS T F s vs σ).bind fun fl σ => match fl with
    | .next vs => exL T F r vs σ
    | .ret v => .ok (.ret v) σ) := rfl
theorem if_inv {α : Type} {c : Prop} [Decidable c] {a : Out α} (h : (if c then a else .stuck) ≠ .stuck) : c ∧ (if c then a else .stuck) = a := by
  by_cases hc : c
  · exact ⟨hc, if_pos hc⟩
  · exact absurd (if_neg hc) h
theorem if_some {α : Type} {c : Prop} [Decidable c] {a r : α} (h : (if c then some a else none) = some r) : c ∧ a = r := by
  by_cases hc : c
  · rw [if_pos hc] at h; exact ⟨hc, Option.some.inj h⟩
  · rw [if_neg hc] at h; cases h
theorem nn {P : Prop} {α : Type} {r : α} (e : (none : Option α) = some r) : P := by cases e
theorem st {P : Prop} {α : Type} (h : (Out.stuck : Out α) ≠ .stuck) : P := absurd rfl h
inductive BinC : Operator → PyData → PyData → PyData → Prop where
  | addI (i j : Int) : BinC .Add (.int i) (.int j) (.int (i + j))
  | addS {a b : Str} (h : (decide (a.length + b.length ≤ 1000)) = true) : BinC .Add (.str a) (.str b) (.str (a ++ b))
  | addL {a b : List PyData} (h : (decide (a.length + b.length ≤ 100000)) = true) : BinC .Add (.list a) (.list b) (.list (a ++ b))
  | addT {a b : List PyData} (h : (decide (a.length + b.length ≤ 100000)) = true) : BinC .Add (.tuple a) (.tuple b) (.tuple (a ++ b))
  | mulI {i : Int} (j : Int) (h : decide (i.natAbs < 2 ^ 64) = true) : BinC .Mult (.int i) (.int j) (.int (i * j))
  | mulL {a : List PyData} {j : Int} (h : (a.length ≤ 1 && decide (0 ≤ j) && decide (j ≤ 1000)) = true) : BinC .Mult (.list a) (.int j) (.list (List.flatten (List.replicate j.toNat a)))
  | mod (i : Int) {j : Int} (h : decide (0 < j) = true) : BinC .Mod (.int i) (.int j) (.int (Int.fmod i j))
  | fdiv (i : Int) {j : Int} (h : (decide (0 < j) && decide (j < 1000000000)) = true) : BinC .FloorDiv (.int i) (.int j) (.int (Int.fdiv i j))
  | pow {i j : Int} (h : (decide (0 ≤ j) && decide (j ≤ 20) && decide (0 ≤ i) && decide (i ≤ 20)) = true) : BinC .Pow (.int i) (.int j) (.int (i ^ j.toNat))
theorem asI_e {α : Type} (C : PyData → Prop) {y : PyData} {f : Int → Option α} {r : α} (h : (asI y).bind f = some r) (k : ∀ i, f i = some r → C (.int i)) : C y := by
  cases y with
  | int i => exact k i h
  | _ => exact nn h
theorem asS_e {α : Type} (C : PyData → Prop) {y : PyData} {f : Str → Option α} {r : α} (h : (asS y).bind f = some r) (k : ∀ i, f i = some r → C (.str i)) : C y := by
  cases y with
  | str i => exact k i h
  | _ => exact nn h
theorem asL_e {α : Type} (C : PyData → Prop) {y : PyData} {f : List PyData → Option α} {r : α} (h : (asL y).bind f = some r) (k : ∀ i, f i = some r → C (.list i)) : C y := by
  cases y with
  | list i => exact k i h
  | _ => exact nn h
theorem asT_e {α : Type} (C : PyData → Prop) {y : PyData} {f : List PyData → Option α} {r : α} (h : (asT y).bind f = some r) (k : ∀ i, f i = some r → C (.tuple i)) : C y := by
  cases y with
  | tuple i => exact k i h
  | _ => exact nn h
theorem asN_e {α : Type} (C : PyData → Prop) {y : PyData} {f : Unit → Option α} {r : α} (h : (asN y).bind f = some r) (k : f () = some r → C .none) : C y := by
  cases y with
  | none => exact k h
  | _ => exact nn h
theorem it_e {α : Type} (C : PyData → Prop) {y : PyData} {f : List PyData → Option α} {r : α} (h : (items? y).bind f = some r) (k : ∀ l, f l = some r → C (.list l)) (k' : ∀ l, f l = some r → C (.tuple l)) : C y := by
  cases y with
  | list l => exact k l h
  | tuple l => exact k' l h
  | _ => exact nn h
theorem inD_e {op : CmpOp} {v w : V} {p : Str × Nat} (C : CmpOp → V → V → Prop) (h : inD op v w = some p) (k : C .In (.d (.str p.1)) (.o p.2)) : C op v w := by
  cases op with
  | In =>
    cases v with
    | o _ => exact nn h
    | d x =>
      cases x with
      | str x =>
        cases w with
        | o i => cases h; exact k
        | d _ => exact nn h
      | _ => exact nn h
  | _ => exact nn h
theorem if_e {α : Type} (C : α → Prop) {c : Prop} [Decidable c] {a r : α} (h : (if c then some a else none) = some r) (k : c → C a) : C r := by
  by_cases hc : c
  · rw [if_pos hc] at h; cases h; exact k hc
  · rw [if_neg hc] at h; exact nn h
theorem sm_e {α : Type} (C : α → Prop) {a r : α} (h : some a = some r) (k : C a) : C r := by cases h; exact k
theorem binC {op : Operator} {x y r : PyData} (e : binop op x y = some r) : BinC op x y r := by
  cases op with
  | Add =>
    cases x with
    | int i => exact asI_e (BinC .Add (.int i) · r) e fun j e => sm_e _ e (.addI i j)
    | str a => exact asS_e (BinC .Add (.str a) · r) e fun j e => if_e _ e .addS
    | list a => exact asL_e (BinC .Add (.list a) · r) e fun j e => if_e _ e .addL
    | tuple a => exact asT_e (BinC .Add (.tuple a) · r) e fun j e => if_e _ e .addT
    | _ => exact nn e
  | Mult =>
    refine asI_e (BinC .Mult x · r) e fun j e => ?_
    cases x with
    | int i => exact if_e _ e (.mulI j)
    | list a => exact if_e _ e .mulL
    | _ => exact nn e
  | Mod => exact asI_e (BinC .Mod · y r) e fun i e => asI_e (BinC .Mod (.int i) · r) e fun j e => if_e _ e (.mod i)
  | FloorDiv => exact asI_e (BinC .FloorDiv · y r) e fun i e => asI_e (BinC .FloorDiv (.int i) · r) e fun j e => if_e _ e (.fdiv i)
  | Pow => exact asI_e (BinC .Pow · y r) e fun i e => asI_e (BinC .Pow (.int i) · r) e fun j e => if_e _ e .pow
  | _ => exact nn e
theorem addL_inv {x y : PyData} {ds : List PyData} (h : binop .Add x y = some (.list ds)) : ∃ a b, x = .list a ∧ y = .list b ∧ ds = a ++ b ∧ decide (a.length + b.length ≤ 100000) = true := by
  cases binC h with
  | addL h2 => exact ⟨_, _, rfl, rfl, rfl, h2⟩
theorem atL_e {α : Type} {P : Prop} {o : Option Cell} {g : List PyData → Out α} (h : atL o g ≠ .stuck) (k : ∀ ds, o = some (.lst false ds) → g ds ≠ .stuck → atL o g = g ds → P) : P := by
  cases o with
  | none => exact st h
  | some c =>
    cases c with
    | lst fz ds =>
      cases fz with
      | false => exact k ds rfl h rfl
      | true => exact st h
    | _ => exact st h
theorem atD_e {α : Type} {P : Prop} {o : Option Cell} {g : List (Str × PyData) → Out α} (h : atD o g ≠ .stuck) (k : ∀ ds, o = some (.dct ds) → g ds ≠ .stuck → atD o g = g ds → P) : P := by
  cases o with
  | none => exact st h
  | some c =>
    cases c with
    | dct ds => exact k ds rfl h rfl
    | _ => exact st h
theorem atI_e {α : Type} {P : Prop} {o : Option Cell} {g : Nat → List (Nat × V) → Out α} (h : atI o g ≠ .stuck) (k : ∀ c fs, o = some (.ins c fs) → g c fs ≠ .stuck → atI o g = g c fs → P) : P := by
  cases o with
  | none => exact st h
  | some c =>
    cases c with
    | ins c fs => exact k c fs rfl h rfl
    | _ => exact st h
theorem atJ_e {α β : Type} {P : Prop} {o : Option β} {g : β → Out α} (h : atJ o g ≠ .stuck) (k : ∀ x, o = some x → g x ≠ .stuck → atJ o g = g x → P) : P := by
  cases o with
  | none => exact st h
  | some x => exact k x rfl h rfl
theorem atO_e {α : Type} (C : V → Prop) {v : V} {g : Nat → Out α} (h : atO v g ≠ .stuck) (k : ∀ i, g i ≠ .stuck → C (.o i)) : C v := match v, h with
  | .o i, h => k i h
  | .d _, h => st h
theorem atX_e {α : Type} (C : V → Prop) {v : V} {g : PyData → Out α} (h : atX v g ≠ .stuck) (k : ∀ i, g i ≠ .stuck → C (.d i)) : C v := match v, h with
  | .d i, h => k i h
  | .o _, h => st h
theorem atS_e {α : Type} (C : PyData → Prop) {v : PyData} {g : Str → Out α} (h : atS v g ≠ .stuck) (k : ∀ i, g i ≠ .stuck → C (.str i)) : C v := by
  cases v with
  | str i => exact k i h
  | _ => exact st h
theorem at0_e {α : Type} (C : List V → Prop) {v : List V} {g : Out α} (h : at0 v g ≠ .stuck) (k : g ≠ .stuck → C []) : C v := by
  cases v with
  | nil => exact k h
  | _ => exact st h
theorem atC_e {α : Type} (C : List V → Prop) {v : List V} {g : PyData → List V → Out α} (h : atC v g ≠ .stuck) (k : ∀ x r, g x r ≠ .stuck → C (.d x :: r)) : C v := by
  cases v with
  | nil => exact st h
  | cons a r => exact atX_e (fun a => C (a :: r)) h fun x h => k x r h
theorem isC_e {P : Prop} {f : Cell → Bool} {v : V} {σ : Sg} (h : isC f v σ = true) (k : ∀ i c, v = .o i → σ[i]? = some c → f c = true → P) : P := by
  cases v with
  | d _ => cases h
  | o i =>
    change onJ f σ[i]? = true at h
    cases hc : σ[i]? with
    | none => rw [hc] at h; cases h
    | some c => rw [hc] at h; exact k i c rfl hc h
theorem cLst_e (C : Cell → Prop) {c : Cell} (h : cLst c = true) (k : ∀ ds, C (.lst false ds)) : C c := match c, h with
  | .lst false ds, _ => k ds
theorem cDct_e (C : Cell → Prop) {c : Cell} (h : cDct c = true) (k : ∀ ds, C (.dct ds)) : C c := match c, h with
  | .dct ds, _ => k ds
theorem cIns_e (C : Cell → Prop) {c : Cell} {i a : Nat} (h : cIns i a c = true) (k : ∀ fs, (fs.lookup a).isNone = true → C (.ins i fs)) : C c := match c, h with
  | .ins j fs, h => (beq_iff_eq.mp (Bool.and_eq_true_iff.mp h).1 : i = j) ▸ k fs (Bool.and_eq_true_iff.mp h).2
theorem isSt_e (C : V → Prop) {v : V} (h : isSt v = true) (k : ∀ x, C (.d (.str x))) : C v := by
  cases v with
  | o _ => cases h
  | d x =>
    cases x with
    | str x => exact k x
    | _ => cases h
noncomputable abbrev pz (l a b : Nat) : Pos := ⟨l, a, l, b⟩
noncomputable abbrev sz (x : String) : Str := Str.ofString x
noncomputable abbrev z0 : Str × Nat := (sz "", 0)
noncomputable def gnL : List Str := [sz "tuple", sz "str", sz "head_of", sz "parts_of", sz "len", sz "sym", sz "LowerFault", sz "expr", sz "is_sym", sz "QUIET", sz "bounds_of", sz "dict", sz "put_names", sz "put_bounds", sz "kind_tree", sz "BOTTOM", sz "ANY", sz "is_expr", sz "TypeHead", sz "type_head", sz "field_of", sz "variable_name", sz "built_in", sz "NEW", sz "made", sz "converted", sz "function_tree", sz "finding_makers", sz "typed", sz "names_in", sz "kind_of_field", sz "new_turned", sz "list", sz "kind_made", sz "symbol_tree", sz "Declared", sz "Variables", sz "begun", sz "ended", sz "own_makers", sz "default_makers", sz "block", sz "NOTHING", sz "int", sz "_law_sym", sz "range", sz "_law_marble", sz "_law_read", sz "enumerate", sz "_law_put", sz "zip", sz "struct_tree", sz "Supply", sz "_law_bag", sz "_law_fields", sz "_law_maker", sz "_law_field_tree", sz "_law_told", sz "_law_rows_due", sz "_law_seen", sz "_law_default_due"]
noncomputable def gkL : List GK := [.bt, .bt, .fn 3 false, .fn 4 false, .bt, .fn 1 false, .bt, .fn 0 false, .fn 5 false, .dat (.tuple [.str "quote", .str "m\x61cro"]), .fn 8 false, .bt, .fn 13 false, .fn 14 false, .fn 10 false, .dat (.tuple [.str "bottom"]), .dat (.tuple [.str "name", .str "Any", .tuple []]), .fn 2 false, .cls 2 17, .fn 18 true, .fn 19 false, .fn 20 false, .fn 9 false, .dat (.str "new"), .fn 29 false, .fn 27 false, .fn 28 false, .fn 31 false, .fn 26 false, .fn 32 false, .fn 25 false, .fn 34 false, .bt, .fn 33 false, .fn 11 false, .cls 3 21, .cls 1 15, .fn 36 false, .fn 37 false, .fn 35 false, .fn 30 false, .fn 12 false, .dat (.tuple [.str "nothing"]), .bt, .fn 41 false, .bt, .fn 40 false, .fn 45 false, .bt, .fn 49 false, .bt, .fn 38 false, .cls 0 6, .fn 39 true, .fn 42 false, .fn 44 false, .fn 43 false, .fn 50 false, .fn 48 false, .fn 46 false, .fn 47 false]
noncomputable def anL : List Str := [sz "many", sz "split", sz "get", sz "statics", sz "table", sz "bounds", sz "next", sz "append", sz "name", sz "variables", sz "above", sz "is_mutable", sz "head", sz "fields", sz "makers", sz "put_field", sz "whole", sz "extend", sz "pop", sz "kind", sz "count"]
noncomputable def akL : List AK := [.plain, .split, .get, .plain, .plain, .plain, .own 0 7, .append, .plain, .own 3 23, .plain, .plain, .plain, .plain, .plain, .own 3 22, .own 3 24, .extend, .pop, .own 1 16, .count]
noncomputable def tab : Tab := ⟨fun i => gnL.getD i default, fun i => gkL.getD i .bt, fun i => anL.getD i default, fun i => akL.getD i .plain⟩
noncomputable def f_expr : Fn :=
  ⟨2, [(sz "head", 1), (sz "parts", 1)], (.cons (.ret (.tup (.cons (.cst (.str "expr") 0 (pz 16 12 18)) (.cons (.var 0 (pz 16 20 24)) (.cons (.bcall .tuple 0 (pz 16 26 31) (.var 1 (pz 16 32 37)) (pz 16 26 38)) .nil))) 0 (pz 16 11 39)) (pz 16 4 39))
      .nil)⟩
noncomputable def f_sym : Fn :=
  ⟨1, [(sz "name", 1)], (.cons (.ret (.tup (.cons (.cst (.str "sym") 0 (pz 18 12 17)) (.cons (.var 0 (pz 18 19 23)) .nil)) 0 (pz 18 11 24)) (pz 18 4 24))
      .nil)⟩
noncomputable def f_is_expr : Fn :=
  ⟨2, [(sz "tree", 1), (sz "head", 1)], (.cons (.ret (.bop .And (.cons (.cmp .Eq (.sub (.var 0 (pz 20 11 15)) (.cst (.int 0) 0 (pz 20 16 17)) (pz 20 11 18)) (.cst (.str "expr") 0 (pz 20 22 28)) (pz 20 11 28)) (.cons (.cmp .Eq (.sub (.var 0 (pz 20 33 37)) (.cst (.int 1) 0 (pz 20 38 39)) (pz 20 33 40)) (.var 1 (pz 20 44 48)) (pz 20 33 48)) .nil)) (pz 20 11 48)) (pz 20 4 48))
      .nil)⟩
noncomputable def f_head_of : Fn :=
  ⟨1, [(sz "tree", 1)], (.cons (.ret (.ife (.cmp .Eq (.sub (.var 0 (pz 22 22 26)) (.cst (.int 0) 0 (pz 22 27 28)) (pz 22 22 29)) (.cst (.str "expr") 0 (pz 22 33 39)) (pz 22 22 39)) (.sub (.var 0 (pz 22 11 15)) (.cst (.int 1) 0 (pz 22 16 17)) (pz 22 11 18)) (.cst (.str "") 0 (pz 22 45 47)) (pz 22 11 47)) (pz 22 4 47))
      .nil)⟩
noncomputable def f_parts_of : Fn :=
  ⟨1, [(sz "tree", 1)], (.cons (.ret (.ife (.cmp .Eq (.sub (.var 0 (pz 24 22 26)) (.cst (.int 0) 0 (pz 24 27 28)) (pz 24 22 29)) (.cst (.str "expr") 0 (pz 24 33 39)) (pz 24 22 39)) (.sub (.var 0 (pz 24 11 15)) (.cst (.int 2) 0 (pz 24 16 17)) (pz 24 11 18)) (.tup .nil 0 (pz 24 45 47)) (pz 24 11 47)) (pz 24 4 47))
      .nil)⟩
noncomputable def f_is_sym : Fn :=
  ⟨1, [(sz "tree", 1)], (.cons (.ret (.cmp .Eq (.sub (.var 0 (pz 26 11 15)) (.cst (.int 0) 0 (pz 26 16 17)) (pz 26 11 18)) (.cst (.str "sym") 0 (pz 26 22 27)) (pz 26 11 27)) (pz 26 4 27))
      .nil)⟩
noncomputable def f_Supply_init : Fn :=
  ⟨1, [(sz "self", 1)], (.cons (.sat (.var 0 (pz 33 8 12)) 0 false (pz 33 8 17) (.cst (.int 0) 0 (pz 33 20 21)) (pz 33 8 21))
      .nil)⟩
noncomputable def f_Supply_next : Fn :=
  ⟨2, [(sz "self", 1), (sz "base", 1)], (.cons (.sat (.var 0 (pz 36 8 12)) 0 false (pz 36 8 17) (.bin .Add (.attr (.var 0 (pz 36 20 24)) 0 (pz 36 20 29)) (.cst (.int 1) 0 (pz 36 32 33)) (pz 36 20 33)) (pz 36 8 33))
      (.cons (.ret (.bin .Add (.bin .Add (.sub (.meth (.var 1 (pz 37 15 19)) 1 (pz 37 15 25) (.cons (.cst (.str ".") 0 (pz 37 26 29)) .nil) (pz 37 15 30)) (.cst (.int 0) 0 (pz 37 31 32)) (pz 37 15 33)) (.cst (.str ".") 0 (pz 37 36 39)) (pz 37 15 39)) (.bcall .str 1 (pz 37 42 45) (.attr (.var 0 (pz 37 46 50)) 0 (pz 37 46 55)) (pz 37 42 56)) (pz 37 15 56)) (pz 37 8 56))
      .nil))⟩
noncomputable def f_bounds_of : Fn :=
  ⟨1, [(sz "tree", 1), (sz "head", 1), (sz "parts", 1)], (.cons (.asg2 1 2 (pz 40 4 8) (pz 40 10 15) 0 (pz 40 4 15) (.call 2 (pz 40 19 26) (.cons (.var 0 (pz 40 27 31)) .nil) (pz 40 19 32)) (.call 3 (pz 40 34 42) (.cons (.var 0 (pz 40 43 47)) .nil) (pz 40 34 48)) 0 (pz 40 18 49) (pz 40 4 49))
      (.cons (.iff (.cmp .Eq (.sub (.var 0 (pz 41 7 11)) (.cst (.int 0) 0 (pz 41 12 13)) (pz 41 7 14)) (.cst (.str "sym") 0 (pz 41 18 23)) (pz 41 7 23)) (.cons (.ret (.tup (.cons (.sub (.var 0 (pz 42 16 20)) (.cst (.int 1) 0 (pz 42 21 22)) (pz 42 16 23)) (.cons (.cst .none 0 (pz 42 25 29)) (.cons (.cst .none 0 (pz 42 31 35)) .nil))) 0 (pz 42 15 36)) (pz 42 8 36))
      .nil) .nil ⟨41, 4, 42, 36⟩)
      (.cons (.iff (.bop .And (.cons (.cmp .Eq (.var 1 (pz 43 7 11)) (.cst (.str "<:") 0 (pz 43 15 19)) (pz 43 7 19)) (.cons (.cmp .Eq (.bcall .len 4 (pz 43 24 27) (.var 2 (pz 43 28 33)) (pz 43 24 34)) (.cst (.int 2) 0 (pz 43 38 39)) (pz 43 24 39)) (.cons (.cmp .Eq (.sub (.sub (.var 2 (pz 43 45 50)) (.cst (.int 0) 0 (pz 43 51 52)) (pz 43 45 53)) (.cst (.int 0) 0 (pz 43 54 55)) (pz 43 45 56)) (.cst (.str "sym") 0 (pz 43 60 65)) (pz 43 45 65)) .nil))) (pz 43 7 66)) (.cons (.ret (.tup (.cons (.sub (.sub (.var 2 (pz 44 16 21)) (.cst (.int 0) 0 (pz 44 22 23)) (pz 44 16 24)) (.cst (.int 1) 0 (pz 44 25 26)) (pz 44 16 27)) (.cons (.cst .none 0 (pz 44 29 33)) (.cons (.sub (.var 2 (pz 44 35 40)) (.cst (.int 1) 0 (pz 44 41 42)) (pz 44 35 43)) .nil))) 0 (pz 44 15 44)) (pz 44 8 44))
      .nil) .nil ⟨43, 4, 44, 44⟩)
      (.cons (.iff (.bop .And (.cons (.cmp .Eq (.var 1 (pz 45 7 11)) (.cst (.str ">:") 0 (pz 45 15 19)) (pz 45 7 19)) (.cons (.cmp .Eq (.bcall .len 4 (pz 45 24 27) (.var 2 (pz 45 28 33)) (pz 45 24 34)) (.cst (.int 2) 0 (pz 45 38 39)) (pz 45 24 39)) (.cons (.cmp .Eq (.sub (.sub (.var 2 (pz 45 45 50)) (.cst (.int 0) 0 (pz 45 51 52)) (pz 45 45 53)) (.cst (.int 0) 0 (pz 45 54 55)) (pz 45 45 56)) (.cst (.str "sym") 0 (pz 45 60 65)) (pz 45 45 65)) .nil))) (pz 45 7 66)) (.cons (.ret (.tup (.cons (.sub (.sub (.var 2 (pz 46 16 21)) (.cst (.int 0) 0 (pz 46 22 23)) (pz 46 16 24)) (.cst (.int 1) 0 (pz 46 25 26)) (pz 46 16 27)) (.cons (.sub (.var 2 (pz 46 29 34)) (.cst (.int 1) 0 (pz 46 35 36)) (pz 46 29 37)) (.cons (.cst .none 0 (pz 46 39 43)) .nil))) 0 (pz 46 15 44)) (pz 46 8 44))
      .nil) .nil ⟨45, 4, 46, 44⟩)
      (.cons (.iff (.bop .And (.cons (.cmp .Eq (.var 1 (pz 47 7 11)) (.cst (.str "comparison") 0 (pz 47 15 27)) (pz 47 7 27)) (.cons (.cmp .Eq (.bcall .len 4 (pz 47 32 35) (.var 2 (pz 47 36 41)) (pz 47 32 42)) (.cst (.int 5) 0 (pz 47 46 47)) (pz 47 32 47)) (.cons (.cmp .Eq (.sub (.sub (.var 2 (pz 47 53 58)) (.cst (.int 2) 0 (pz 47 59 60)) (pz 47 53 61)) (.cst (.int 0) 0 (pz 47 62 63)) (pz 47 53 64)) (.cst (.str "sym") 0 (pz 47 68 73)) (pz 47 53 73)) (.cons (.chn (.sub (.var 2 (pz 47 80 85)) (.cst (.int 1) 0 (pz 47 86 87)) (pz 47 80 88)) [.Eq, .Eq] (.cons (.sub (.var 2 (pz 47 92 97)) (.cst (.int 3) 0 (pz 47 98 99)) (pz 47 92 100)) (.cons (.call 5 (pz 47 104 107) (.cons (.cst (.str "<:") 0 (pz 47 108 112)) .nil) (pz 47 104 113)) .nil)) (pz 47 80 113)) .nil)))) (pz 47 7 114)) (.cons (.ret (.tup (.cons (.sub (.sub (.var 2 (pz 48 16 21)) (.cst (.int 2) 0 (pz 48 22 23)) (pz 48 16 24)) (.cst (.int 1) 0 (pz 48 25 26)) (pz 48 16 27)) (.cons (.sub (.var 2 (pz 48 29 34)) (.cst (.int 0) 0 (pz 48 35 36)) (pz 48 29 37)) (.cons (.sub (.var 2 (pz 48 39 44)) (.cst (.int 4) 0 (pz 48 45 46)) (pz 48 39 47)) .nil))) 0 (pz 48 15 48)) (pz 48 8 48))
      .nil) .nil ⟨47, 4, 48, 48⟩)
      (.cons (.raise 6 (pz 49 10 20) (.cst (.str "a variable behind where that is none") 0 (pz 49 21 59)) (pz 49 10 60) (pz 49 4 60))
      .nil))))))⟩
noncomputable def f_built_in : Fn :=
  ⟨2, [(sz "name", 1), (sz "parts", 1)], (.cons (.ret (.call 7 (pz 53 11 15) (.cons (.cst (.str "call") 0 (pz 53 16 22)) (.cons (.bin .Add (.tup (.cons (.tup (.cons (.cst (.str "value") 0 (pz 53 26 33)) (.cons (.tup (.cons (.cst (.str "builtin") 0 (pz 53 36 45)) (.cons (.var 0 (pz 53 47 51)) .nil)) 0 (pz 53 35 52)) .nil)) 0 (pz 53 25 53)) .nil) 0 (pz 53 24 55)) (.bcall .tuple 0 (pz 53 58 63) (.var 1 (pz 53 64 69)) (pz 53 58 70)) (pz 53 24 70)) .nil)) (pz 53 11 71)) (pz 53 4 71))
      .nil)⟩
noncomputable def f_kind_tree : Fn :=
  ⟨1, [(sz "kind", 1)], (.cons (.ret (.tup (.cons (.cst (.str "value") 0 (pz 55 12 19)) (.cons (.tup (.cons (.cst (.str "type") 0 (pz 55 22 28)) (.cons (.var 0 (pz 55 30 34)) .nil)) 0 (pz 55 21 35)) .nil)) 0 (pz 55 11 36)) (pz 55 4 36))
      .nil)⟩
noncomputable def f_symbol_tree : Fn :=
  ⟨1, [(sz "name", 1)], (.cons (.ret (.tup (.cons (.cst (.str "value") 0 (pz 57 12 19)) (.cons (.tup (.cons (.cst (.str "sym") 0 (pz 57 22 27)) (.cons (.var 0 (pz 57 29 33)) .nil)) 0 (pz 57 21 34)) .nil)) 0 (pz 57 11 35)) (pz 57 4 35))
      .nil)⟩
noncomputable def f_block : Fn :=
  ⟨1, [(sz "trees", 1)], (.cons (.ret (.call 7 (pz 59 11 15) (.cons (.cst (.str "block") 0 (pz 59 16 23)) (.cons (.var 0 (pz 59 25 30)) .nil)) (pz 59 11 31)) (pz 59 4 31))
      .nil)⟩
noncomputable def f_put_names : Fn :=
  ⟨2, [(sz "tree", 1), (sz "table", 2), (sz "parts", 1), (sz "own", 2), (sz "at", 1), z0, z0, z0, z0], (.cons (.iff (.call 8 (pz 61 7 13) (.cons (.var 0 (pz 61 14 18)) .nil) (pz 61 7 19)) (.cons (.ret (.meth (.var 1 (pz 62 15 20)) 2 (pz 62 15 24) (.cons (.sub (.var 0 (pz 62 25 29)) (.cst (.int 1) 0 (pz 62 30 31)) (pz 62 25 32)) (.cons (.var 0 (pz 62 34 38)) .nil)) (pz 62 15 39)) (pz 62 8 39))
      .nil) .nil ⟨61, 4, 62, 39⟩)
      (.cons (.iff (.bop .Or (.cons (.cmp .NotEq (.sub (.var 0 (pz 63 7 11)) (.cst (.int 0) 0 (pz 63 12 13)) (pz 63 7 14)) (.cst (.str "expr") 0 (pz 63 18 24)) (pz 63 7 24)) (.cons (.cmp .In (.sub (.var 0 (pz 63 28 32)) (.cst (.int 1) 0 (pz 63 33 34)) (pz 63 28 35)) (.glb 9 (pz 63 39 44)) (pz 63 28 44)) .nil)) (pz 63 7 44)) (.cons (.ret (.var 0 (pz 64 15 19)) (pz 64 8 19))
      .nil) .nil ⟨63, 4, 64, 19⟩)
      (.cons (.asg 2 false (pz 65 4 9) (.sub (.var 0 (pz 65 12 16)) (.cst (.int 2) 0 (pz 65 17 18)) (pz 65 12 19)) (pz 65 4 19))
      (.cons (.iff (.cmp .Eq (.sub (.var 0 (pz 66 7 11)) (.cst (.int 1) 0 (pz 66 12 13)) (pz 66 7 14)) (.cst (.str "where") 0 (pz 66 18 25)) (pz 66 7 25)) (.cons (.asg 3 false (pz 67 8 11) (.comp (.sub (.call 10 (pz 67 15 24) (.cons (.var 5 (pz 67 25 29)) .nil) (pz 67 15 30)) (.cst (.int 0) 0 (pz 67 31 32)) (pz 67 15 33)) (.one 5 (pz 67 38 42)) .it (.slc (.var 2 (pz 67 46 51)) (.cons (.cst (.int 1) 0 (pz 67 52 53)) .nil) .nil (pz 67 52 54) (pz 67 46 55)) (.dead default) .nil [z0, z0, z0, z0, z0, (sz "told", 1)] ⟨.function, [(sz ".0", .local), (sz "told", .local), (sz "bounds_of", .globalImplicit)], false, false, []⟩ (pz 67 14 56)) (pz 67 8 56))
      (.cons (.asg 1 false (pz 68 8 13) (.bcall .dict 11 (pz 68 16 20) (.comp (.tup (.cons (.var 6 (pz 68 23 27)) (.cons (.sub (.var 1 (pz 68 29 34)) (.var 6 (pz 68 35 39)) (pz 68 29 40)) .nil)) 0 (pz 68 22 41)) (.one 6 (pz 68 46 50)) .it (.var 1 (pz 68 54 59)) (.dead default) (.cons (.cmp .NotIn (.var 6 (pz 68 63 67)) (.var 3 (pz 68 75 78)) (pz 68 63 78)) .nil) [z0, (sz "table", 2), z0, (sz "own", 2), z0, z0, (sz "name", 1)] ⟨.function, [(sz ".0", .local), (sz "name", .local), (sz "own", .free), (sz "table", .free)], false, false, []⟩ (pz 68 21 79)) (pz 68 16 80)) (pz 68 8 80))
      (.cons (.ret (.call 7 (pz 69 15 19) (.cons (.cst (.str "where") 0 (pz 69 20 27)) (.cons (.bin .Add (.tup (.cons (.call 12 (pz 69 30 39) (.cons (.sub (.var 2 (pz 69 40 45)) (.cst (.int 0) 0 (pz 69 46 47)) (pz 69 40 48)) (.cons (.var 1 (pz 69 50 55)) .nil)) (pz 69 30 56)) .nil) 0 (pz 69 29 58)) (.bcall .tuple 0 (pz 69 61 66) (.comp (.call 13 (pz 69 68 78) (.cons (.var 7 (pz 69 79 83)) (.cons (.var 1 (pz 69 85 90)) .nil)) (pz 69 68 91)) (.one 7 (pz 69 96 100)) .it (.slc (.var 2 (pz 69 104 109)) (.cons (.cst (.int 1) 0 (pz 69 110 111)) .nil) .nil (pz 69 110 112) (pz 69 104 113)) (.dead default) .nil [z0, (sz "table", 2), z0, z0, z0, z0, z0, (sz "told", 1)] ⟨.function, [(sz ".0", .local), (sz "told", .local), (sz "put_bounds", .globalImplicit), (sz "table", .free)], false, false, []⟩ (pz 69 67 114)) (pz 69 61 115)) (pz 69 29 115)) .nil)) (pz 69 15 116)) (pz 69 8 116))
      .nil))) .nil ⟨66, 4, 69, 116⟩)
      (.cons (.iff (.cmp .In (.sub (.var 0 (pz 70 7 11)) (.cst (.int 1) 0 (pz 70 12 13)) (pz 70 7 14)) (.tup (.cons (.cst (.str ".") 0 (pz 70 19 22)) (.cons (.cst (.str "kw") 0 (pz 70 24 28)) .nil)) 0 (pz 70 18 29)) (pz 70 7 29)) (.cons (.asg 4 false (pz 71 8 10) (.ife (.cmp .Eq (.sub (.var 0 (pz 71 18 22)) (.cst (.int 1) 0 (pz 71 23 24)) (pz 71 18 25)) (.cst (.str ".") 0 (pz 71 29 32)) (pz 71 18 32)) (.cst (.int 0) 0 (pz 71 13 14)) (.cst (.int 1) 0 (pz 71 38 39)) (pz 71 13 39)) (pz 71 8 39))
      (.cons (.ret (.call 7 (pz 72 15 19) (.cons (.sub (.var 0 (pz 72 20 24)) (.cst (.int 1) 0 (pz 72 25 26)) (pz 72 20 27)) (.cons (.bin .Add (.bin .Add (.slc (.var 2 (pz 72 29 34)) .nil (.cons (.var 4 (pz 72 36 38)) .nil) (pz 72 35 38) (pz 72 29 39)) (.tup (.cons (.call 12 (pz 72 43 52) (.cons (.sub (.var 2 (pz 72 53 58)) (.var 4 (pz 72 59 61)) (pz 72 53 62)) (.cons (.var 1 (pz 72 64 69)) .nil)) (pz 72 43 70)) .nil) 0 (pz 72 42 72)) (pz 72 29 72)) (.slc (.var 2 (pz 72 75 80)) (.cons (.bin .Add (.var 4 (pz 72 81 83)) (.cst (.int 1) 0 (pz 72 86 87)) (pz 72 81 87)) .nil) .nil (pz 72 81 88) (pz 72 75 89)) (pz 72 29 89)) .nil)) (pz 72 15 90)) (pz 72 8 90))
      .nil)) .nil ⟨70, 4, 72, 90⟩)
      (.cons (.ret (.call 7 (pz 73 11 15) (.cons (.sub (.var 0 (pz 73 16 20)) (.cst (.int 1) 0 (pz 73 21 22)) (pz 73 16 23)) (.cons (.comp (.call 12 (pz 73 26 35) (.cons (.var 8 (pz 73 36 40)) (.cons (.var 1 (pz 73 42 47)) .nil)) (pz 73 26 48)) (.one 8 (pz 73 53 57)) .it (.var 2 (pz 73 61 66)) (.dead default) .nil [z0, (sz "table", 2), z0, z0, z0, z0, z0, z0, (sz "part", 1)] ⟨.function, [(sz ".0", .local), (sz "part", .local), (sz "put_names", .globalImplicit), (sz "table", .free)], false, false, []⟩ (pz 73 25 67)) .nil)) (pz 73 11 68)) (pz 73 4 68))
      .nil))))))⟩
noncomputable def f_put_bounds : Fn :=
  ⟨2, [(sz "told", 1), (sz "table", 1), (sz "name", 1), (sz "lower", 1), (sz "upper", 1), (sz "low", 1), (sz "high", 1)], (.cons (.unp [(2, (pz 75 4 8)), (3, (pz 75 10 15)), (4, (pz 75 17 22))] 0 (pz 75 4 22) (.call 10 (pz 75 25 34) (.cons (.var 0 (pz 75 35 39)) .nil) (pz 75 25 40)) (pz 75 4 40))
      (.cons (.asg 5 false (pz 76 4 7) (.ife (.cmp .Is (.var 3 (pz 76 18 23)) (.cst .none 0 (pz 76 27 31)) (pz 76 18 31)) (.cst .none 0 (pz 76 10 14)) (.call 12 (pz 76 37 46) (.cons (.var 3 (pz 76 47 52)) (.cons (.var 1 (pz 76 54 59)) .nil)) (pz 76 37 60)) (pz 76 10 60)) (pz 76 4 60))
      (.cons (.asg 6 false (pz 77 4 8) (.ife (.cmp .Is (.var 4 (pz 77 19 24)) (.cst .none 0 (pz 77 28 32)) (pz 77 19 32)) (.cst .none 0 (pz 77 11 15)) (.call 12 (pz 77 38 47) (.cons (.var 4 (pz 77 48 53)) (.cons (.var 1 (pz 77 55 60)) .nil)) (pz 77 38 61)) (pz 77 11 61)) (pz 77 4 61))
      (.cons (.iff (.cmp .Is (.var 5 (pz 78 7 10)) (.cst .none 0 (pz 78 14 18)) (pz 78 7 18)) (.cons (.ret (.ife (.cmp .Is (.var 6 (pz 79 28 32)) (.cst .none 0 (pz 79 36 40)) (pz 79 28 40)) (.call 5 (pz 79 15 18) (.cons (.var 2 (pz 79 19 23)) .nil) (pz 79 15 24)) (.call 7 (pz 79 46 50) (.cons (.cst (.str "<:") 0 (pz 79 51 55)) (.cons (.tup (.cons (.call 5 (pz 79 58 61) (.cons (.var 2 (pz 79 62 66)) .nil) (pz 79 58 67)) (.cons (.var 6 (pz 79 69 73)) .nil)) 0 (pz 79 57 74)) .nil)) (pz 79 46 75)) (pz 79 15 75)) (pz 79 8 75))
      .nil) .nil ⟨78, 4, 79, 75⟩)
      (.cons (.iff (.cmp .Is (.var 6 (pz 80 7 11)) (.cst .none 0 (pz 80 15 19)) (pz 80 7 19)) (.cons (.ret (.call 7 (pz 81 15 19) (.cons (.cst (.str ">:") 0 (pz 81 20 24)) (.cons (.tup (.cons (.call 5 (pz 81 27 30) (.cons (.var 2 (pz 81 31 35)) .nil) (pz 81 27 36)) (.cons (.var 5 (pz 81 38 41)) .nil)) 0 (pz 81 26 42)) .nil)) (pz 81 15 43)) (pz 81 8 43))
      .nil) .nil ⟨80, 4, 81, 43⟩)
      (.cons (.ret (.call 7 (pz 82 11 15) (.cons (.cst (.str "comparison") 0 (pz 82 16 28)) (.cons (.tup (.cons (.var 5 (pz 82 31 34)) (.cons (.call 5 (pz 82 36 39) (.cons (.cst (.str "<:") 0 (pz 82 40 44)) .nil) (pz 82 36 45)) (.cons (.call 5 (pz 82 47 50) (.cons (.var 2 (pz 82 51 55)) .nil) (pz 82 47 56)) (.cons (.call 5 (pz 82 58 61) (.cons (.cst (.str "<:") 0 (pz 82 62 66)) .nil) (pz 82 58 67)) (.cons (.var 6 (pz 82 69 73)) .nil))))) 0 (pz 82 30 74)) .nil)) (pz 82 11 75)) (pz 82 4 75))
      .nil))))))⟩
noncomputable def f_Variables_init : Fn :=
  ⟨3, [(sz "self", 1), (sz "trees", 1), (sz "supply", 1), (sz "tree", 1), (sz "name", 1), (sz "lower", 1), (sz "upper", 1), (sz "low", 1), (sz "high", 1), (sz "variable", 1)], (.cons (.sat (.var 0 (pz 86 8 12)) 3 false (pz 86 8 20) (.dsp .nil .nil (pz 86 23 25)) (pz 86 8 25))
      (.cons (.sat (.var 0 (pz 87 8 12)) 4 false (pz 87 8 18) (.dsp .nil .nil (pz 87 21 23)) (pz 87 8 23))
      (.cons (.sat (.var 0 (pz 88 8 12)) 5 true (pz 88 8 19) (.lst .nil (pz 88 22 24)) (pz 88 8 24))
      (.cons (.for_ (.one 3 (pz 89 12 16)) .it (.var 1 (pz 89 20 25)) (.dead default) (.cons (.unp [(4, (pz 90 12 16)), (5, (pz 90 18 23)), (6, (pz 90 25 30))] 0 (pz 90 12 30) (.call 10 (pz 90 33 42) (.cons (.var 3 (pz 90 43 47)) .nil) (pz 90 33 48)) (pz 90 12 48))
      (.cons (.iff (.cmp .In (.var 4 (pz 91 15 19)) (.attr (.var 0 (pz 91 23 27)) 3 (pz 91 23 35)) (pz 91 15 35)) (.cons (.raise 6 (pz 92 22 32) (.bin .Add (.cst (.str "a variable is told twice: ") 0 (pz 92 33 61)) (.var 4 (pz 92 64 68)) (pz 92 33 68)) (pz 92 22 69) (pz 92 16 69))
      .nil) .nil ⟨91, 12, 92, 69⟩)
      (.cons (.asg 7 false (pz 93 12 15) (.ife (.cmp .Is (.var 5 (pz 93 39 44)) (.cst .none 0 (pz 93 48 52)) (pz 93 39 52)) (.call 14 (pz 93 18 27) (.cons (.glb 15 (pz 93 28 34)) .nil) (pz 93 18 35)) (.call 12 (pz 93 58 67) (.cons (.var 5 (pz 93 68 73)) (.cons (.attr (.var 0 (pz 93 75 79)) 4 (pz 93 75 85)) .nil)) (pz 93 58 86)) (pz 93 18 86)) (pz 93 12 86))
      (.cons (.asg 8 false (pz 94 12 16) (.ife (.cmp .Is (.var 6 (pz 94 37 42)) (.cst .none 0 (pz 94 46 50)) (pz 94 37 50)) (.call 14 (pz 94 19 28) (.cons (.glb 16 (pz 94 29 32)) .nil) (pz 94 19 33)) (.call 12 (pz 94 56 65) (.cons (.var 6 (pz 94 66 71)) (.cons (.attr (.var 0 (pz 94 73 77)) 4 (pz 94 73 83)) .nil)) (pz 94 56 84)) (pz 94 19 84)) (pz 94 12 84))
      (.cons (.asg 9 false (pz 95 12 20) (.meth (.var 2 (pz 95 23 29)) 6 (pz 95 23 34) (.cons (.var 4 (pz 95 35 39)) .nil) (pz 95 23 40)) (pz 95 12 40))
      (.cons (.sit (.attr (.var 0 (pz 96 12 16)) 3 (pz 96 12 24)) (.var 4 (pz 96 25 29)) (pz 96 12 30) (.var 9 (pz 96 33 41)) (pz 96 12 41))
      (.cons (.sit (.attr (.var 0 (pz 97 12 16)) 4 (pz 97 12 22)) (.var 4 (pz 97 23 27)) (pz 97 12 28) (.call 14 (pz 97 31 40) (.cons (.tup (.cons (.cst (.str "var") 0 (pz 97 42 47)) (.cons (.var 9 (pz 97 49 57)) .nil)) 0 (pz 97 41 58)) .nil) (pz 97 31 59)) (pz 97 12 59))
      (.cons (.xpr (.meth (.attr (.var 0 (pz 98 12 16)) 5 (pz 98 12 23)) 7 (pz 98 12 30) (.cons (.tup (.cons (.var 9 (pz 98 32 40)) (.cons (.var 7 (pz 98 42 45)) (.cons (.var 8 (pz 98 47 51)) .nil))) 0 (pz 98 31 52)) .nil) (pz 98 12 53)) (pz 98 12 53))
      .nil)))))))) ⟨89, 8, 98, 53⟩)
      .nil))))⟩
noncomputable def f_Variables_kind : Fn :=
  ⟨2, [(sz "self", 1), (sz "tree", 1)], (.cons (.ret (.ife (.cmp .Is (.var 1 (pz 101 33 37)) (.cst .none 0 (pz 101 41 45)) (pz 101 33 45)) (.call 14 (pz 101 15 24) (.cons (.glb 16 (pz 101 25 28)) .nil) (pz 101 15 29)) (.call 12 (pz 101 51 60) (.cons (.var 1 (pz 101 61 65)) (.cons (.attr (.var 0 (pz 101 67 71)) 4 (pz 101 67 77)) .nil)) (pz 101 51 78)) (pz 101 15 78)) (pz 101 8 78))
      .nil)⟩
noncomputable def f_TypeHead_init : Fn :=
  ⟨4, [(sz "self", 1), (sz "name", 1), (sz "variables", 1), (sz "above", 1)], (.cons (.sat (.var 0 (pz 110 8 12)) 8 false (pz 110 8 17) (.var 1 (pz 110 20 24)) (pz 110 8 24))
      (.cons (.sat (.var 0 (pz 111 8 12)) 9 false (pz 111 8 22) (.var 2 (pz 111 25 34)) (pz 111 8 34))
      (.cons (.sat (.var 0 (pz 112 8 12)) 10 false (pz 112 8 18) (.var 3 (pz 112 21 26)) (pz 112 8 26))
      .nil)))⟩
noncomputable def f_type_head : Fn :=
  ⟨1, [(sz "tree", 1), (sz "above", 1)], (.cons (.asg 1 false (pz 114 4 9) (.call 14 (pz 114 12 21) (.cons (.glb 16 (pz 114 22 25)) .nil) (pz 114 12 26)) (pz 114 4 26))
      (.cons (.iff (.bop .And (.cons (.call 17 (pz 115 7 14) (.cons (.var 0 (pz 115 15 19)) (.cons (.cst (.str "<:") 0 (pz 115 21 25)) .nil)) (pz 115 7 26)) (.cons (.cmp .Eq (.bcall .len 4 (pz 115 31 34) (.sub (.var 0 (pz 115 35 39)) (.cst (.int 2) 0 (pz 115 40 41)) (pz 115 35 42)) (pz 115 31 43)) (.cst (.int 2) 0 (pz 115 47 48)) (pz 115 31 48)) .nil)) (pz 115 7 48)) (.cons (.unp [(0, (pz 116 8 12)), (1, (pz 116 14 19))] 0 (pz 116 8 19) (.sub (.var 0 (pz 116 22 26)) (.cst (.int 2) 0 (pz 116 27 28)) (pz 116 22 29)) (pz 116 8 29))
      .nil) .nil ⟨115, 4, 116, 29⟩)
      (.cons (.iff (.call 8 (pz 117 7 13) (.cons (.var 0 (pz 117 14 18)) .nil) (pz 117 7 19)) (.cons (.ret (.call 18 (pz 118 15 23) (.cons (.sub (.var 0 (pz 118 24 28)) (.cst (.int 1) 0 (pz 118 29 30)) (pz 118 24 31)) (.cons (.tup .nil 0 (pz 118 33 35)) (.cons (.var 1 (pz 118 37 42)) .nil))) (pz 118 15 43)) (pz 118 8 43))
      .nil) .nil ⟨117, 4, 118, 43⟩)
      (.cons (.iff (.bop .And (.cons (.call 17 (pz 119 7 14) (.cons (.var 0 (pz 119 15 19)) (.cons (.cst (.str "curly") 0 (pz 119 21 28)) .nil)) (pz 119 7 29)) (.cons (.call 8 (pz 119 34 40) (.cons (.sub (.sub (.var 0 (pz 119 41 45)) (.cst (.int 2) 0 (pz 119 46 47)) (pz 119 41 48)) (.cst (.int 0) 0 (pz 119 49 50)) (pz 119 41 51)) .nil) (pz 119 34 52)) .nil)) (pz 119 7 52)) (.cons (.ret (.call 18 (pz 120 15 23) (.cons (.sub (.sub (.sub (.var 0 (pz 120 24 28)) (.cst (.int 2) 0 (pz 120 29 30)) (pz 120 24 31)) (.cst (.int 0) 0 (pz 120 32 33)) (pz 120 24 34)) (.cst (.int 1) 0 (pz 120 35 36)) (pz 120 24 37)) (.cons (.slc (.sub (.var 0 (pz 120 39 43)) (.cst (.int 2) 0 (pz 120 44 45)) (pz 120 39 46)) (.cons (.cst (.int 1) 0 (pz 120 47 48)) .nil) .nil (pz 120 47 49) (pz 120 39 50)) (.cons (.var 1 (pz 120 52 57)) .nil))) (pz 120 15 58)) (pz 120 8 58))
      .nil) .nil ⟨119, 4, 120, 58⟩)
      (.cons (.raise 6 (pz 121 10 20) (.cst (.str "a declaration without a name") 0 (pz 121 21 51)) (pz 121 10 52) (pz 121 4 52))
      .nil)))))⟩
noncomputable def f_field_of : Fn :=
  ⟨1, [(sz "tree", 1)], (.cons (.iff (.call 8 (pz 123 7 13) (.cons (.var 0 (pz 123 14 18)) .nil) (pz 123 7 19)) (.cons (.ret (.tup (.cons (.sub (.var 0 (pz 124 16 20)) (.cst (.int 1) 0 (pz 124 21 22)) (pz 124 16 23)) (.cons (.cst .none 0 (pz 124 25 29)) .nil)) 0 (pz 124 15 30)) (pz 124 8 30))
      .nil) .nil ⟨123, 4, 124, 30⟩)
      (.cons (.iff (.bop .And (.cons (.call 17 (pz 125 7 14) (.cons (.var 0 (pz 125 15 19)) (.cons (.cst (.str "::") 0 (pz 125 21 25)) .nil)) (pz 125 7 26)) (.cons (.cmp .Eq (.bcall .len 4 (pz 125 31 34) (.sub (.var 0 (pz 125 35 39)) (.cst (.int 2) 0 (pz 125 40 41)) (pz 125 35 42)) (pz 125 31 43)) (.cst (.int 2) 0 (pz 125 47 48)) (pz 125 31 48)) (.cons (.call 8 (pz 125 53 59) (.cons (.sub (.sub (.var 0 (pz 125 60 64)) (.cst (.int 2) 0 (pz 125 65 66)) (pz 125 60 67)) (.cst (.int 0) 0 (pz 125 68 69)) (pz 125 60 70)) .nil) (pz 125 53 71)) .nil))) (pz 125 7 71)) (.cons (.ret (.tup (.cons (.sub (.sub (.sub (.var 0 (pz 126 16 20)) (.cst (.int 2) 0 (pz 126 21 22)) (pz 126 16 23)) (.cst (.int 0) 0 (pz 126 24 25)) (pz 126 16 26)) (.cst (.int 1) 0 (pz 126 27 28)) (pz 126 16 29)) (.cons (.sub (.sub (.var 0 (pz 126 31 35)) (.cst (.int 2) 0 (pz 126 36 37)) (pz 126 31 38)) (.cst (.int 1) 0 (pz 126 39 40)) (pz 126 31 41)) .nil)) 0 (pz 126 15 42)) (pz 126 8 42))
      .nil) .nil ⟨125, 4, 126, 42⟩)
      (.cons (.ret (.cst .none 0 (pz 127 11 15)) (pz 127 4 15))
      .nil)))⟩
noncomputable def f_variable_name : Fn :=
  ⟨1, [(sz "tree", 1)], (.cons (.iff (.call 8 (pz 129 7 13) (.cons (.var 0 (pz 129 14 18)) .nil) (pz 129 7 19)) (.cons (.ret (.sub (.var 0 (pz 130 15 19)) (.cst (.int 1) 0 (pz 130 20 21)) (pz 130 15 22)) (pz 130 8 22))
      .nil) .nil ⟨129, 4, 130, 22⟩)
      (.cons (.iff (.bop .And (.cons (.call 17 (pz 131 7 14) (.cons (.var 0 (pz 131 15 19)) (.cons (.cst (.str "<:") 0 (pz 131 21 25)) .nil)) (pz 131 7 26)) (.cons (.cmp .Eq (.bcall .len 4 (pz 131 31 34) (.sub (.var 0 (pz 131 35 39)) (.cst (.int 2) 0 (pz 131 40 41)) (pz 131 35 42)) (pz 131 31 43)) (.cst (.int 2) 0 (pz 131 47 48)) (pz 131 31 48)) (.cons (.call 8 (pz 131 53 59) (.cons (.sub (.sub (.var 0 (pz 131 60 64)) (.cst (.int 2) 0 (pz 131 65 66)) (pz 131 60 67)) (.cst (.int 0) 0 (pz 131 68 69)) (pz 131 60 70)) .nil) (pz 131 53 71)) .nil))) (pz 131 7 71)) (.cons (.ret (.sub (.sub (.sub (.var 0 (pz 132 15 19)) (.cst (.int 2) 0 (pz 132 20 21)) (pz 132 15 22)) (.cst (.int 0) 0 (pz 132 23 24)) (pz 132 15 25)) (.cst (.int 1) 0 (pz 132 26 27)) (pz 132 15 28)) (pz 132 8 28))
      .nil) .nil ⟨131, 4, 132, 28⟩)
      (.cons (.raise 6 (pz 133 10 20) (.cst (.str "a variable of a kind that is none") 0 (pz 133 21 56)) (pz 133 10 57) (pz 133 4 57))
      .nil)))⟩
noncomputable def f_Declared_init : Fn :=
  ⟨2, [(sz "self", 1), (sz "tree", 1), (sz "part", 1), (sz "field", 1)], (.cons (.sat (.var 0 (pz 137 8 12)) 11 false (pz 137 8 23) (.cmp .Eq (.sub (.sub (.var 1 (pz 137 26 30)) (.cst (.int 2) 0 (pz 137 31 32)) (pz 137 26 33)) (.cst (.int 0) 0 (pz 137 34 35)) (pz 137 26 36)) (.tup (.cons (.cst (.str "bool") 0 (pz 137 41 47)) (.cons (.cst (.bool true) 0 (pz 137 49 53)) .nil)) 0 (pz 137 40 54)) (pz 137 26 54)) (pz 137 8 54))
      (.cons (.sat (.var 0 (pz 138 8 12)) 12 false (pz 138 8 17) (.call 19 (pz 138 20 29) (.cons (.sub (.sub (.var 1 (pz 138 30 34)) (.cst (.int 2) 0 (pz 138 35 36)) (pz 138 30 37)) (.cst (.int 1) 0 (pz 138 38 39)) (pz 138 30 40)) .nil) (pz 138 20 41)) (pz 138 8 41))
      (.cons (.sat (.var 0 (pz 139 8 12)) 13 true (pz 139 8 19) (.lst .nil (pz 139 22 24)) (pz 139 8 24))
      (.cons (.sat (.var 0 (pz 140 8 12)) 14 true (pz 140 8 19) (.lst .nil (pz 140 22 24)) (pz 140 8 24))
      (.cons (.for_ (.one 2 (pz 141 12 16)) .it (.sub (.sub (.sub (.var 1 (pz 141 20 24)) (.cst (.int 2) 0 (pz 141 25 26)) (pz 141 20 27)) (.cst (.int 2) 0 (pz 141 28 29)) (pz 141 20 30)) (.cst (.int 2) 0 (pz 141 31 32)) (pz 141 20 33)) (.dead default) (.cons (.asg 3 false (pz 142 12 17) (.call 20 (pz 142 20 28) (.cons (.var 2 (pz 142 29 33)) .nil) (pz 142 20 34)) (pz 142 12 34))
      (.cons (.iff (.cmp .IsNot (.var 3 (pz 143 15 20)) (.cst .none 0 (pz 143 28 32)) (pz 143 15 32)) (.cons (.xpr (.meth (.var 0 (pz 144 16 20)) 15 (pz 144 16 30) (.cons (.var 3 (pz 144 31 36)) .nil) (pz 144 16 37)) (pz 144 16 37))
      .nil) (.cons (.iff (.cmp .Eq (.call 2 (pz 145 17 24) (.cons (.var 2 (pz 145 25 29)) .nil) (pz 145 17 30)) (.cst (.str "function") 0 (pz 145 34 44)) (pz 145 17 44)) (.cons (.xpr (.meth (.attr (.var 0 (pz 146 16 20)) 14 (pz 146 16 27)) 7 (pz 146 16 34) (.cons (.var 2 (pz 146 35 39)) .nil) (pz 146 16 40)) (pz 146 16 40))
      .nil) (.cons (.raise 6 (pz 148 22 32) (.cst (.str "what stands in a struct is neither a field nor a function") 0 (pz 148 33 92)) (pz 148 22 93) (pz 148 16 93))
      .nil) ⟨145, 12, 148, 93⟩)
      .nil) ⟨143, 12, 148, 93⟩)
      .nil)) ⟨141, 8, 148, 93⟩)
      .nil)))))⟩
noncomputable def f_Declared_put_field : Fn :=
  ⟨2, [(sz "self", 1), (sz "field", 1), z0, z0], (.cons (.iff (.cmp .In (.sub (.var 1 (pz 151 11 16)) (.cst (.int 0) 0 (pz 151 17 18)) (pz 151 11 19)) (.comp (.var 2 (pz 151 24 28)) (.many [(2, (pz 151 33 37)), (3, (pz 151 39 43))] 0 (pz 151 33 43)) .it (.attr (.var 0 (pz 151 47 51)) 13 (pz 151 47 58)) (.dead default) .nil [z0, z0, (sz "name", 1), (sz "kind", 1)] ⟨.function, [(sz ".0", .local), (sz "name", .local), (sz "kind", .local)], false, false, []⟩ (pz 151 23 59)) (pz 151 11 59)) (.cons (.raise 6 (pz 152 18 28) (.bin .Add (.cst (.str "a field is told twice: ") 0 (pz 152 29 54)) (.sub (.var 1 (pz 152 57 62)) (.cst (.int 0) 0 (pz 152 63 64)) (pz 152 57 65)) (pz 152 29 65)) (pz 152 18 66) (pz 152 12 66))
      .nil) .nil ⟨151, 8, 152, 66⟩)
      (.cons (.xpr (.meth (.attr (.var 0 (pz 153 8 12)) 13 (pz 153 8 19)) 7 (pz 153 8 26) (.cons (.var 1 (pz 153 27 32)) .nil) (pz 153 8 33)) (pz 153 8 33))
      .nil))⟩
noncomputable def f_Declared_variables : Fn :=
  ⟨1, [(sz "self", 1), z0], (.cons (.ret (.comp (.call 21 (pz 156 16 29) (.cons (.var 1 (pz 156 30 34)) .nil) (pz 156 16 35)) (.one 1 (pz 156 40 44)) .it (.attr (.attr (.var 0 (pz 156 48 52)) 12 (pz 156 48 57)) 9 (pz 156 48 67)) (.dead default) .nil [z0, (sz "tree", 1)] ⟨.function, [(sz ".0", .local), (sz "tree", .local), (sz "variable_name", .globalImplicit)], false, false, []⟩ (pz 156 15 68)) (pz 156 8 68))
      .nil)⟩
noncomputable def f_Declared_whole : Fn :=
  ⟨1, [(sz "self", 1), (sz "names", 1), z0], (.cons (.asg 1 false (pz 159 8 13) (.meth (.var 0 (pz 159 16 20)) 9 (pz 159 16 30) .nil (pz 159 16 32)) (pz 159 8 32))
      (.cons (.iff (.cmp .Eq (.var 1 (pz 160 11 16)) (.lst .nil (pz 160 20 22)) (pz 160 11 22)) (.cons (.ret (.call 5 (pz 161 19 22) (.cons (.attr (.attr (.var 0 (pz 161 23 27)) 12 (pz 161 23 32)) 8 (pz 161 23 37)) .nil) (pz 161 19 38)) (pz 161 12 38))
      .nil) .nil ⟨160, 8, 161, 38⟩)
      (.cons (.ret (.call 7 (pz 162 15 19) (.cons (.cst (.str "curly") 0 (pz 162 20 27)) (.cons (.bin .Add (.lst (.cons (.call 5 (pz 162 30 33) (.cons (.attr (.attr (.var 0 (pz 162 34 38)) 12 (pz 162 34 43)) 8 (pz 162 34 48)) .nil) (pz 162 30 49)) .nil) (pz 162 29 50)) (.comp (.call 5 (pz 162 54 57) (.cons (.var 2 (pz 162 58 62)) .nil) (pz 162 54 63)) (.one 2 (pz 162 68 72)) .it (.var 1 (pz 162 76 81)) (.dead default) .nil [z0, z0, (sz "name", 1)] ⟨.function, [(sz ".0", .local), (sz "name", .local), (sz "sym", .globalImplicit)], false, false, []⟩ (pz 162 53 82)) (pz 162 29 82)) .nil)) (pz 162 15 83)) (pz 162 8 83))
      .nil)))⟩
noncomputable def f_kind_of_field : Fn :=
  ⟨1, [(sz "field", 1)], (.cons (.ret (.ife (.cmp .Is (.sub (.var 0 (pz 164 29 34)) (.cst (.int 1) 0 (pz 164 35 36)) (pz 164 29 37)) (.cst .none 0 (pz 164 41 45)) (pz 164 29 45)) (.call 14 (pz 164 11 20) (.cons (.glb 16 (pz 164 21 24)) .nil) (pz 164 11 25)) (.sub (.var 0 (pz 164 51 56)) (.cst (.int 1) 0 (pz 164 57 58)) (pz 164 51 59)) (pz 164 11 59)) (pz 164 4 59))
      .nil)⟩
noncomputable def f_typed : Fn :=
  ⟨1, [(sz "field", 1)], (.cons (.ret (.ife (.cmp .Is (.sub (.var 0 (pz 166 28 33)) (.cst (.int 1) 0 (pz 166 34 35)) (pz 166 28 36)) (.cst .none 0 (pz 166 40 44)) (pz 166 28 44)) (.call 5 (pz 166 11 14) (.cons (.sub (.var 0 (pz 166 15 20)) (.cst (.int 0) 0 (pz 166 21 22)) (pz 166 15 23)) .nil) (pz 166 11 24)) (.call 7 (pz 166 50 54) (.cons (.cst (.str "::") 0 (pz 166 55 59)) (.cons (.tup (.cons (.call 5 (pz 166 62 65) (.cons (.sub (.var 0 (pz 166 66 71)) (.cst (.int 0) 0 (pz 166 72 73)) (pz 166 66 74)) .nil) (pz 166 62 75)) (.cons (.sub (.var 0 (pz 166 77 82)) (.cst (.int 1) 0 (pz 166 83 84)) (pz 166 77 85)) .nil)) 0 (pz 166 61 86)) .nil)) (pz 166 50 87)) (pz 166 11 87)) (pz 166 4 87))
      .nil)⟩
noncomputable def f_converted : Fn :=
  ⟨1, [(sz "field", 1)], (.cons (.iff (.cmp .Is (.sub (.var 0 (pz 168 7 12)) (.cst (.int 1) 0 (pz 168 13 14)) (pz 168 7 15)) (.cst .none 0 (pz 168 19 23)) (pz 168 7 23)) (.cons (.ret (.call 5 (pz 169 15 18) (.cons (.sub (.var 0 (pz 169 19 24)) (.cst (.int 0) 0 (pz 169 25 26)) (pz 169 19 27)) .nil) (pz 169 15 28)) (pz 169 8 28))
      .nil) .nil ⟨168, 4, 169, 28⟩)
      (.cons (.ret (.call 7 (pz 170 11 15) (.cons (.cst (.str "call") 0 (pz 170 16 22)) (.cons (.tup (.cons (.tup (.cons (.cst (.str "value") 0 (pz 170 26 33)) (.cons (.tup (.cons (.cst (.str "fun") 0 (pz 170 36 41)) (.cons (.cst (.str "convert") 0 (pz 170 43 52)) .nil)) 0 (pz 170 35 53)) .nil)) 0 (pz 170 25 54)) (.cons (.sub (.var 0 (pz 170 56 61)) (.cst (.int 1) 0 (pz 170 62 63)) (pz 170 56 64)) (.cons (.call 5 (pz 170 66 69) (.cons (.sub (.var 0 (pz 170 70 75)) (.cst (.int 0) 0 (pz 170 76 77)) (pz 170 70 78)) .nil) (pz 170 66 79)) .nil))) 0 (pz 170 24 80)) .nil)) (pz 170 11 81)) (pz 170 4 81))
      .nil))⟩
noncomputable def f_function_tree : Fn :=
  ⟨4, [(sz "callee", 1), (sz "arguments", 1), (sz "variables", 1), (sz "body", 1), (sz "head", 1)], (.cons (.asg 4 false (pz 172 4 8) (.call 7 (pz 172 11 15) (.cons (.cst (.str "call") 0 (pz 172 16 22)) (.cons (.bin .Add (.lst (.cons (.var 0 (pz 172 25 31)) .nil) (pz 172 24 32)) (.var 1 (pz 172 35 44)) (pz 172 24 44)) .nil)) (pz 172 11 45)) (pz 172 4 45))
      (.cons (.iff (.cmp .NotEq (.var 2 (pz 173 7 16)) (.tup .nil 0 (pz 173 20 22)) (pz 173 7 22)) (.cons (.asg 4 false (pz 174 8 12) (.call 7 (pz 174 15 19) (.cons (.cst (.str "where") 0 (pz 174 20 27)) (.cons (.bin .Add (.tup (.cons (.var 4 (pz 174 30 34)) .nil) 0 (pz 174 29 36)) (.bcall .tuple 0 (pz 174 39 44) (.var 2 (pz 174 45 54)) (pz 174 39 55)) (pz 174 29 55)) .nil)) (pz 174 15 56)) (pz 174 8 56))
      .nil) .nil ⟨173, 4, 174, 56⟩)
      (.cons (.ret (.call 7 (pz 175 11 15) (.cons (.cst (.str "function") 0 (pz 175 16 26)) (.cons (.tup (.cons (.var 4 (pz 175 29 33)) (.cons (.var 3 (pz 175 35 39)) .nil)) 0 (pz 175 28 40)) .nil)) (pz 175 11 41)) (pz 175 4 41))
      .nil)))⟩
noncomputable def f_made : Fn :=
  ⟨2, [(sz "kind", 1), (sz "parts", 1)], (.cons (.ret (.call 22 (pz 177 11 19) (.cons (.glb 23 (pz 177 20 23)) (.cons (.bin .Add (.lst (.cons (.var 0 (pz 177 26 30)) .nil) (pz 177 25 31)) (.var 1 (pz 177 34 39)) (pz 177 25 39)) .nil)) (pz 177 11 40)) (pz 177 4 40))
      .nil)⟩
noncomputable def f_default_makers : Fn :=
  ⟨1, [(sz "declared", 1), (sz "name", 1), (sz "variables", 1), (sz "fields", 1), (sz "whole", 1), (sz "plain", 1), (sz "convert", 1), (sz "told", 1), (sz "exact", 1), z0, z0, z0, z0], (.cons (.asg2 1 2 (pz 179 4 8) (pz 179 10 19) 0 (pz 179 4 19) (.call 5 (pz 179 23 26) (.cons (.attr (.attr (.var 0 (pz 179 27 35)) 12 (pz 179 27 40)) 8 (pz 179 27 45)) .nil) (pz 179 23 46)) (.attr (.attr (.var 0 (pz 179 48 56)) 12 (pz 179 48 61)) 9 (pz 179 48 71)) 0 (pz 179 22 72) (pz 179 4 72))
      (.cons (.asg2 3 4 (pz 180 4 10) (pz 180 12 17) 0 (pz 180 4 17) (.attr (.var 0 (pz 180 21 29)) 13 (pz 180 21 36)) (.meth (.var 0 (pz 180 38 46)) 16 (pz 180 38 52) .nil (pz 180 38 54)) 0 (pz 180 20 55) (pz 180 4 55))
      (.cons (.asg 5 false (pz 181 4 9) (.comp (.call 5 (pz 181 13 16) (.cons (.sub (.var 9 (pz 181 17 22)) (.cst (.int 0) 0 (pz 181 23 24)) (pz 181 17 25)) .nil) (pz 181 13 26)) (.one 9 (pz 181 31 36)) .it (.var 3 (pz 181 40 46)) (.dead default) .nil [z0, z0, z0, z0, z0, z0, z0, z0, z0, (sz "field", 1)] ⟨.function, [(sz ".0", .local), (sz "field", .local), (sz "sym", .globalImplicit)], false, false, []⟩ (pz 181 12 47)) (pz 181 4 47))
      (.cons (.asg 6 false (pz 182 4 11) (.call 24 (pz 182 14 18) (.cons (.var 4 (pz 182 19 24)) (.cons (.comp (.call 25 (pz 182 27 36) (.cons (.var 10 (pz 182 37 42)) .nil) (pz 182 27 43)) (.one 10 (pz 182 48 53)) .it (.var 3 (pz 182 57 63)) (.dead default) .nil [z0, z0, z0, z0, z0, z0, z0, z0, z0, z0, (sz "field", 1)] ⟨.function, [(sz ".0", .local), (sz "field", .local), (sz "converted", .globalImplicit)], false, false, []⟩ (pz 182 26 64)) .nil)) (pz 182 14 65)) (pz 182 4 65))
      (.cons (.iff (.cmp .NotEq (.var 2 (pz 183 7 16)) (.tup .nil 0 (pz 183 20 22)) (pz 183 7 22)) (.cons (.asg 7 false (pz 184 8 12) (.call 26 (pz 184 15 28) (.cons (.var 4 (pz 184 29 34)) (.cons (.var 5 (pz 184 36 41)) (.cons (.var 2 (pz 184 43 52)) (.cons (.var 6 (pz 184 54 61)) .nil)))) (pz 184 15 62)) (pz 184 8 62))
      (.cons (.ret (.bin .Add (.lst (.cons (.var 7 (pz 185 16 20)) .nil) (pz 185 15 21)) (.call 27 (pz 185 24 38) (.cons (.var 0 (pz 185 39 47)) (.cons (.var 1 (pz 185 49 53)) (.cons (.var 4 (pz 185 55 60)) .nil))) (pz 185 24 61)) (pz 185 15 61)) (pz 185 8 61))
      .nil)) .nil ⟨183, 4, 185, 61⟩)
      (.cons (.asg 8 false (pz 186 4 9) (.call 26 (pz 186 12 25) (.cons (.var 1 (pz 186 26 30)) (.cons (.comp (.call 28 (pz 186 33 38) (.cons (.var 11 (pz 186 39 44)) .nil) (pz 186 33 45)) (.one 11 (pz 186 50 55)) .it (.var 3 (pz 186 59 65)) (.dead default) .nil [z0, z0, z0, z0, z0, z0, z0, z0, z0, z0, z0, (sz "field", 1)] ⟨.function, [(sz ".0", .local), (sz "field", .local), (sz "typed", .globalImplicit)], false, false, []⟩ (pz 186 32 66)) (.cons (.tup .nil 0 (pz 186 68 70)) (.cons (.call 24 (pz 186 72 76) (.cons (.var 4 (pz 186 77 82)) (.cons (.var 5 (pz 186 84 89)) .nil)) (pz 186 72 90)) .nil)))) (pz 186 12 91)) (pz 186 4 91))
      (.cons (.iff (.cmp .Eq (.comp (.var 12 (pz 187 8 13)) (.one 12 (pz 187 18 23)) .it (.var 3 (pz 187 27 33)) (.dead default) (.cons (.cmp .IsNot (.sub (.var 12 (pz 187 37 42)) (.cst (.int 1) 0 (pz 187 43 44)) (pz 187 37 45)) (.cst .none 0 (pz 187 53 57)) (pz 187 37 57)) .nil) [z0, z0, z0, z0, z0, z0, z0, z0, z0, z0, z0, z0, (sz "field", 1)] ⟨.function, [(sz ".0", .local), (sz "field", .local)], false, false, []⟩ (pz 187 7 58)) (.lst .nil (pz 187 62 64)) (pz 187 7 64)) (.cons (.ret (.lst (.cons (.var 8 (pz 188 16 21)) .nil) (pz 188 15 22)) (pz 188 8 22))
      .nil) .nil ⟨187, 4, 188, 22⟩)
      (.cons (.ret (.lst (.cons (.var 8 (pz 189 12 17)) (.cons (.call 26 (pz 189 19 32) (.cons (.var 1 (pz 189 33 37)) (.cons (.var 5 (pz 189 39 44)) (.cons (.tup .nil 0 (pz 189 46 48)) (.cons (.var 6 (pz 189 50 57)) .nil)))) (pz 189 19 58)) .nil)) (pz 189 11 59)) (pz 189 4 59))
      .nil))))))))⟩
noncomputable def f_finding_makers : Fn :=
  ⟨3, [(sz "declared", 1), (sz "name", 1), (sz "whole", 1), (sz "told", 2), (sz "field", 1), (sz "typed_fields", 1), (sz "body", 1), z0, z0, z0], (.cons (.asg 3 true (pz 191 4 8) (.lst .nil (pz 191 11 13)) (pz 191 4 13))
      (.cons (.for_ (.one 4 (pz 192 8 13)) .it (.attr (.var 0 (pz 192 17 25)) 13 (pz 192 17 32)) (.dead default) (.cons (.xpr (.meth (.var 3 (pz 193 8 12)) 17 (pz 193 8 19) (.cons (.call 29 (pz 193 20 28) (.cons (.call 30 (pz 193 29 42) (.cons (.var 4 (pz 193 43 48)) .nil) (pz 193 29 49)) .nil) (pz 193 20 50)) .nil) (pz 193 8 51)) (pz 193 8 51))
      .nil) ⟨192, 4, 193, 51⟩)
      (.cons (.iff (.cmp .NotEq (.comp (.var 7 (pz 194 8 16)) (.one 7 (pz 194 21 29)) .it (.meth (.var 0 (pz 194 33 41)) 9 (pz 194 33 51) .nil (pz 194 33 53)) (.dead default) (.cons (.cmp .NotIn (.var 7 (pz 194 57 65)) (.var 3 (pz 194 73 77)) (pz 194 57 77)) .nil) [z0, z0, z0, (sz "told", 2), z0, z0, z0, (sz "variable", 1)] ⟨.function, [(sz ".0", .local), (sz "variable", .local), (sz "told", .free)], false, false, []⟩ (pz 194 7 78)) (.lst .nil (pz 194 82 84)) (pz 194 7 84)) (.cons (.ret (.lst .nil (pz 195 15 17)) (pz 195 8 17))
      .nil) .nil ⟨194, 4, 195, 17⟩)
      (.cons (.asg 5 false (pz 196 4 16) (.comp (.call 28 (pz 196 20 25) (.cons (.var 8 (pz 196 26 31)) .nil) (pz 196 20 32)) (.one 8 (pz 196 37 42)) .it (.attr (.var 0 (pz 196 46 54)) 13 (pz 196 46 61)) (.dead default) .nil [z0, z0, z0, z0, z0, z0, z0, z0, (sz "field", 1)] ⟨.function, [(sz ".0", .local), (sz "field", .local), (sz "typed", .globalImplicit)], false, false, []⟩ (pz 196 19 62)) (pz 196 4 62))
      (.cons (.asg 6 false (pz 197 4 8) (.call 24 (pz 197 11 15) (.cons (.var 2 (pz 197 16 21)) (.cons (.comp (.call 5 (pz 197 24 27) (.cons (.sub (.var 9 (pz 197 28 33)) (.cst (.int 0) 0 (pz 197 34 35)) (pz 197 28 36)) .nil) (pz 197 24 37)) (.one 9 (pz 197 42 47)) .it (.attr (.var 0 (pz 197 51 59)) 13 (pz 197 51 66)) (.dead default) .nil [z0, z0, z0, z0, z0, z0, z0, z0, z0, (sz "field", 1)] ⟨.function, [(sz ".0", .local), (sz "field", .local), (sz "sym", .globalImplicit)], false, false, []⟩ (pz 197 23 67)) .nil)) (pz 197 11 68)) (pz 197 4 68))
      (.cons (.ret (.lst (.cons (.call 26 (pz 198 12 25) (.cons (.var 1 (pz 198 26 30)) (.cons (.var 5 (pz 198 32 44)) (.cons (.attr (.attr (.var 0 (pz 198 46 54)) 12 (pz 198 46 59)) 9 (pz 198 46 69)) (.cons (.var 6 (pz 198 71 75)) .nil)))) (pz 198 12 76)) .nil) (pz 198 11 77)) (pz 198 4 77))
      .nil))))))⟩
noncomputable def f_names_in : Fn :=
  ⟨1, [(sz "tree", 1), (sz "found", 1), (sz "left", 1), (sz "here", 1)], (.cons (.asg2 1 2 (pz 200 4 9) (pz 200 11 15) 0 (pz 200 4 15) (.lst .nil (pz 200 19 21)) (.lst (.cons (.var 0 (pz 200 24 28)) .nil) (pz 200 23 29)) 0 (pz 200 18 30) (pz 200 4 30))
      (.cons (.whl (.cmp .NotEq (.var 2 (pz 201 10 14)) (.lst .nil (pz 201 18 20)) (pz 201 10 20)) (.cons (.asg 3 false (pz 202 8 12) (.meth (.var 2 (pz 202 15 19)) 18 (pz 202 15 23) .nil (pz 202 15 25)) (pz 202 8 25))
      (.cons (.iff (.call 8 (pz 203 11 17) (.cons (.var 3 (pz 203 18 22)) .nil) (pz 203 11 23)) (.cons (.xpr (.meth (.var 1 (pz 204 12 17)) 7 (pz 204 12 24) (.cons (.sub (.var 3 (pz 204 25 29)) (.cst (.int 1) 0 (pz 204 30 31)) (pz 204 25 32)) .nil) (pz 204 12 33)) (pz 204 12 33))
      .nil) .nil ⟨203, 8, 204, 33⟩)
      (.cons (.xpr (.meth (.var 2 (pz 205 8 12)) 17 (pz 205 8 19) (.cons (.call 3 (pz 205 20 28) (.cons (.var 3 (pz 205 29 33)) .nil) (pz 205 20 34)) .nil) (pz 205 8 35)) (pz 205 8 35))
      .nil))) ⟨201, 4, 205, 35⟩)
      (.cons (.ret (.var 1 (pz 206 11 16)) (pz 206 4 16))
      .nil)))⟩
noncomputable def f_kind_made : Fn :=
  ⟨2, [(sz "head", 1), (sz "declared", 1), (sz "callee", 1)], (.cons (.whl (.cmp .In (.call 2 (pz 208 10 17) (.cons (.var 0 (pz 208 18 22)) .nil) (pz 208 10 23)) (.tup (.cons (.cst (.str "where") 0 (pz 208 28 35)) (.cons (.cst (.str "::") 0 (pz 208 37 41)) .nil)) 0 (pz 208 27 42)) (pz 208 10 42)) (.cons (.asg 0 false (pz 209 8 12) (.sub (.sub (.var 0 (pz 209 15 19)) (.cst (.int 2) 0 (pz 209 20 21)) (pz 209 15 22)) (.cst (.int 0) 0 (pz 209 23 24)) (pz 209 15 25)) (pz 209 8 25))
      .nil) ⟨208, 4, 209, 25⟩)
      (.cons (.iff (.bnot (.call 17 (pz 210 11 18) (.cons (.var 0 (pz 210 19 23)) (.cons (.cst (.str "call") 0 (pz 210 25 31)) .nil)) (pz 210 11 32)) (pz 210 7 32)) (.cons (.raise 6 (pz 211 14 24) (.cst (.str "a constructor without a name") 0 (pz 211 25 55)) (pz 211 14 56) (pz 211 8 56))
      .nil) .nil ⟨210, 4, 211, 56⟩)
      (.cons (.asg 2 false (pz 212 4 10) (.sub (.sub (.var 0 (pz 212 13 17)) (.cst (.int 2) 0 (pz 212 18 19)) (pz 212 13 20)) (.cst (.int 0) 0 (pz 212 21 22)) (pz 212 13 23)) (pz 212 4 23))
      (.cons (.iff (.bop .And (.cons (.call 17 (pz 213 7 14) (.cons (.var 2 (pz 213 15 21)) (.cons (.cst (.str "curly") 0 (pz 213 23 30)) .nil)) (pz 213 7 31)) (.cons (.cmp .Eq (.sub (.sub (.var 2 (pz 213 36 42)) (.cst (.int 2) 0 (pz 213 43 44)) (pz 213 36 45)) (.cst (.int 0) 0 (pz 213 46 47)) (pz 213 36 48)) (.call 5 (pz 213 52 55) (.cons (.attr (.attr (.var 1 (pz 213 56 64)) 12 (pz 213 56 69)) 8 (pz 213 56 74)) .nil) (pz 213 52 75)) (pz 213 36 75)) .nil)) (pz 213 7 75)) (.cons (.ret (.var 2 (pz 214 15 21)) (pz 214 8 21))
      .nil) .nil ⟨213, 4, 214, 21⟩)
      (.cons (.iff (.cmp .NotEq (.var 2 (pz 215 7 13)) (.call 5 (pz 215 17 20) (.cons (.attr (.attr (.var 1 (pz 215 21 29)) 12 (pz 215 21 34)) 8 (pz 215 21 39)) .nil) (pz 215 17 40)) (pz 215 7 40)) (.cons (.raise 6 (pz 216 14 24) (.cst (.str "a function in a struct that is no constructor of it") 0 (pz 216 25 78)) (pz 216 14 79) (pz 216 8 79))
      .nil) .nil ⟨215, 4, 216, 79⟩)
      (.cons (.ret (.ife (.cmp .Eq (.attr (.attr (.var 1 (pz 217 21 29)) 12 (pz 217 21 34)) 9 (pz 217 21 44)) (.tup .nil 0 (pz 217 48 50)) (pz 217 21 50)) (.var 2 (pz 217 11 17)) (.cst .none 0 (pz 217 56 60)) (pz 217 11 60)) (pz 217 4 60))
      .nil))))))⟩
noncomputable def f_new_turned : Fn :=
  ⟨3, [(sz "tree", 1), (sz "name", 2), (sz "whole", 2), (sz "parts", 1), (sz "callee", 1), z0], (.cons (.iff (.bop .Or (.cons (.cmp .NotEq (.sub (.var 0 (pz 219 7 11)) (.cst (.int 0) 0 (pz 219 12 13)) (pz 219 7 14)) (.cst (.str "expr") 0 (pz 219 18 24)) (pz 219 7 24)) (.cons (.cmp .In (.sub (.var 0 (pz 219 28 32)) (.cst (.int 1) 0 (pz 219 33 34)) (pz 219 28 35)) (.tup (.cons (.cst (.str "quote") 0 (pz 219 40 47)) (.cons (.cst (.str "m\x61cro") 0 (pz 219 49 56)) .nil)) 0 (pz 219 39 57)) (pz 219 28 57)) .nil)) (pz 219 7 57)) (.cons (.ret (.var 0 (pz 220 15 19)) (pz 220 8 19))
      .nil) .nil ⟨219, 4, 220, 19⟩)
      (.cons (.asg 3 false (pz 221 4 9) (.bcall .tuple 0 (pz 221 12 17) (.comp (.call 31 (pz 221 19 29) (.cons (.var 5 (pz 221 30 34)) (.cons (.var 1 (pz 221 36 40)) (.cons (.var 2 (pz 221 42 47)) .nil))) (pz 221 19 48)) (.one 5 (pz 221 53 57)) .it (.sub (.var 0 (pz 221 61 65)) (.cst (.int 2) 0 (pz 221 66 67)) (pz 221 61 68)) (.dead default) .nil [z0, (sz "name", 2), (sz "whole", 2), z0, z0, (sz "part", 1)] ⟨.function, [(sz ".0", .local), (sz "part", .local), (sz "new_turned", .globalImplicit), (sz "name", .free), (sz "whole", .free)], false, false, []⟩ (pz 221 18 69)) (pz 221 12 70)) (pz 221 4 70))
      (.cons (.iff (.cmp .NotEq (.sub (.var 0 (pz 222 7 11)) (.cst (.int 1) 0 (pz 222 12 13)) (pz 222 7 14)) (.cst (.str "call") 0 (pz 222 18 24)) (pz 222 7 24)) (.cons (.ret (.call 7 (pz 223 15 19) (.cons (.sub (.var 0 (pz 223 20 24)) (.cst (.int 1) 0 (pz 223 25 26)) (pz 223 20 27)) (.cons (.var 3 (pz 223 29 34)) .nil)) (pz 223 15 35)) (pz 223 8 35))
      .nil) .nil ⟨222, 4, 223, 35⟩)
      (.cons (.asg 4 false (pz 224 4 10) (.sub (.var 3 (pz 224 13 18)) (.cst (.int 0) 0 (pz 224 19 20)) (pz 224 13 21)) (pz 224 4 21))
      (.cons (.iff (.bop .And (.cons (.call 17 (pz 225 7 14) (.cons (.var 4 (pz 225 15 21)) (.cons (.cst (.str "curly") 0 (pz 225 23 30)) .nil)) (pz 225 7 31)) (.cons (.cmp .Eq (.sub (.sub (.var 4 (pz 225 36 42)) (.cst (.int 2) 0 (pz 225 43 44)) (pz 225 36 45)) (.cst (.int 0) 0 (pz 225 46 47)) (pz 225 36 48)) (.call 5 (pz 225 52 55) (.cons (.glb 23 (pz 225 56 59)) .nil) (pz 225 52 60)) (pz 225 36 60)) .nil)) (pz 225 7 60)) (.cons (.ret (.call 24 (pz 226 15 19) (.cons (.call 7 (pz 226 20 24) (.cons (.cst (.str "curly") 0 (pz 226 25 32)) (.cons (.bin .Add (.tup (.cons (.call 5 (pz 226 35 38) (.cons (.var 1 (pz 226 39 43)) .nil) (pz 226 35 44)) .nil) 0 (pz 226 34 46)) (.slc (.sub (.var 4 (pz 226 49 55)) (.cst (.int 2) 0 (pz 226 56 57)) (pz 226 49 58)) (.cons (.cst (.int 1) 0 (pz 226 59 60)) .nil) .nil (pz 226 59 61) (pz 226 49 62)) (pz 226 34 62)) .nil)) (pz 226 20 63)) (.cons (.bcall .list 32 (pz 226 65 69) (.slc (.var 3 (pz 226 70 75)) (.cons (.cst (.int 1) 0 (pz 226 76 77)) .nil) .nil (pz 226 76 78) (pz 226 70 79)) (pz 226 65 80)) .nil)) (pz 226 15 81)) (pz 226 8 81))
      .nil) .nil ⟨225, 4, 226, 81⟩)
      (.cons (.iff (.cmp .NotEq (.var 4 (pz 227 7 13)) (.call 5 (pz 227 17 20) (.cons (.glb 23 (pz 227 21 24)) .nil) (pz 227 17 25)) (pz 227 7 25)) (.cons (.ret (.call 7 (pz 228 15 19) (.cons (.cst (.str "call") 0 (pz 228 20 26)) (.cons (.var 3 (pz 228 28 33)) .nil)) (pz 228 15 34)) (pz 228 8 34))
      .nil) .nil ⟨227, 4, 228, 34⟩)
      (.cons (.iff (.cmp .Is (.var 2 (pz 229 7 12)) (.cst .none 0 (pz 229 16 20)) (pz 229 7 20)) (.cons (.raise 6 (pz 230 14 24) (.cst (.str "new without the variables of its kind") 0 (pz 230 25 64)) (pz 230 14 65) (pz 230 8 65))
      .nil) .nil ⟨229, 4, 230, 65⟩)
      (.cons (.ret (.call 24 (pz 231 11 15) (.cons (.var 2 (pz 231 16 21)) (.cons (.bcall .list 32 (pz 231 23 27) (.slc (.var 3 (pz 231 28 33)) (.cons (.cst (.int 1) 0 (pz 231 34 35)) .nil) .nil (pz 231 34 36) (pz 231 28 37)) (pz 231 23 38)) .nil)) (pz 231 11 39)) (pz 231 4 39))
      .nil))))))))⟩
noncomputable def f_own_makers : Fn :=
  ⟨1, [(sz "declared", 1), (sz "found", 1), (sz "tree", 1), (sz "whole", 1)], (.cons (.asg 1 true (pz 233 4 9) (.lst .nil (pz 233 12 14)) (pz 233 4 14))
      (.cons (.for_ (.one 2 (pz 234 8 12)) .it (.attr (.var 0 (pz 234 16 24)) 14 (pz 234 16 31)) (.dead default) (.cons (.asg 3 false (pz 235 8 13) (.call 33 (pz 235 16 25) (.cons (.sub (.sub (.var 2 (pz 235 26 30)) (.cst (.int 2) 0 (pz 235 31 32)) (pz 235 26 33)) (.cst (.int 0) 0 (pz 235 34 35)) (pz 235 26 36)) (.cons (.var 0 (pz 235 38 46)) .nil)) (pz 235 16 47)) (pz 235 8 47))
      (.cons (.xpr (.meth (.var 1 (pz 236 8 13)) 7 (pz 236 8 20) (.cons (.call 7 (pz 236 21 25) (.cons (.cst (.str "function") 0 (pz 236 26 36)) (.cons (.tup (.cons (.sub (.sub (.var 2 (pz 236 39 43)) (.cst (.int 2) 0 (pz 236 44 45)) (pz 236 39 46)) (.cst (.int 0) 0 (pz 236 47 48)) (pz 236 39 49)) (.cons (.call 31 (pz 236 51 61) (.cons (.sub (.sub (.var 2 (pz 236 62 66)) (.cst (.int 2) 0 (pz 236 67 68)) (pz 236 62 69)) (.cst (.int 1) 0 (pz 236 70 71)) (pz 236 62 72)) (.cons (.attr (.attr (.var 0 (pz 236 74 82)) 12 (pz 236 74 87)) 8 (pz 236 74 92)) (.cons (.var 3 (pz 236 94 99)) .nil))) (pz 236 51 100)) .nil)) 0 (pz 236 38 101)) .nil)) (pz 236 21 102)) .nil) (pz 236 8 103)) (pz 236 8 103))
      .nil)) ⟨234, 4, 236, 103⟩)
      (.cons (.ret (.var 1 (pz 237 11 16)) (pz 237 4 16))
      .nil)))⟩
noncomputable def f_begun : Fn :=
  ⟨4, [(sz "head", 1), (sz "is_mutable", 1), (sz "is_abstract", 1), (sz "variables", 1), (sz "rows", 1), (sz "variable", 1), (sz "low", 1), (sz "high", 1), (sz "ahead", 1)], (.cons (.asg 4 true (pz 239 4 8) (.lst .nil (pz 239 11 13)) (pz 239 4 13))
      (.cons (.for_ (.many [(5, (pz 240 8 16)), (6, (pz 240 18 21)), (7, (pz 240 23 27))] 0 (pz 240 8 27)) .it (.attr (.var 3 (pz 240 31 40)) 5 (pz 240 31 47)) (.dead default) (.cons (.xpr (.meth (.var 4 (pz 241 8 12)) 17 (pz 241 8 19) (.cons (.lst (.cons (.call 34 (pz 241 21 32) (.cons (.var 5 (pz 241 33 41)) .nil) (pz 241 21 42)) (.cons (.var 6 (pz 241 44 47)) (.cons (.var 7 (pz 241 49 53)) .nil))) (pz 241 20 54)) .nil) (pz 241 8 55)) (pz 241 8 55))
      .nil) ⟨240, 4, 241, 55⟩)
      (.cons (.asg 8 false (pz 242 4 9) (.lst (.cons (.call 34 (pz 242 13 24) (.cons (.attr (.var 0 (pz 242 25 29)) 8 (pz 242 25 34)) .nil) (pz 242 13 35)) (.cons (.tup (.cons (.cst (.str "bool") 0 (pz 242 38 44)) (.cons (.var 1 (pz 242 46 56)) .nil)) 0 (pz 242 37 57)) (.cons (.tup (.cons (.cst (.str "bool") 0 (pz 242 60 66)) (.cons (.var 2 (pz 242 68 79)) .nil)) 0 (pz 242 59 80)) (.cons (.meth (.var 3 (pz 242 82 91)) 19 (pz 242 82 96) (.cons (.attr (.var 0 (pz 242 97 101)) 10 (pz 242 97 107)) .nil) (pz 242 82 108)) .nil)))) (pz 242 12 109)) (pz 242 4 109))
      (.cons (.ret (.call 22 (pz 243 11 19) (.cons (.cst (.str "begin_kind") 0 (pz 243 20 32)) (.cons (.bin .Add (.var 8 (pz 243 34 39)) (.var 4 (pz 243 42 46)) (pz 243 34 46)) .nil)) (pz 243 11 47)) (pz 243 4 47))
      .nil))))⟩
noncomputable def f_ended : Fn :=
  ⟨2, [(sz "declared", 1), (sz "variables", 1), (sz "rows", 1), (sz "field", 1)], (.cons (.asg 2 true (pz 245 4 8) (.lst .nil (pz 245 11 13)) (pz 245 4 13))
      (.cons (.for_ (.one 3 (pz 246 8 13)) .it (.attr (.var 0 (pz 246 17 25)) 13 (pz 246 17 32)) (.dead default) (.cons (.xpr (.meth (.var 2 (pz 247 8 12)) 17 (pz 247 8 19) (.cons (.lst (.cons (.call 34 (pz 247 21 32) (.cons (.sub (.var 3 (pz 247 33 38)) (.cst (.int 0) 0 (pz 247 39 40)) (pz 247 33 41)) .nil) (pz 247 21 42)) (.cons (.meth (.var 1 (pz 247 44 53)) 19 (pz 247 44 58) (.cons (.sub (.var 3 (pz 247 59 64)) (.cst (.int 1) 0 (pz 247 65 66)) (pz 247 59 67)) .nil) (pz 247 44 68)) .nil)) (pz 247 20 69)) .nil) (pz 247 8 70)) (pz 247 8 70))
      .nil) ⟨246, 4, 247, 70⟩)
      (.cons (.ret (.call 22 (pz 248 11 19) (.cons (.cst (.str "end_kind") 0 (pz 248 20 30)) (.cons (.bin .Add (.lst (.cons (.call 34 (pz 248 33 44) (.cons (.attr (.attr (.var 0 (pz 248 45 53)) 12 (pz 248 45 58)) 8 (pz 248 45 63)) .nil) (pz 248 33 64)) .nil) (pz 248 32 65)) (.var 2 (pz 248 68 72)) (pz 248 32 72)) .nil)) (pz 248 11 73)) (pz 248 4 73))
      .nil)))⟩
noncomputable def f_struct_tree : Fn :=
  ⟨2, [(sz "tree", 1), (sz "supply", 1), (sz "declared", 1), (sz "variables", 1), (sz "rows", 1), (sz "makers", 1)], (.cons (.asg 2 false (pz 250 4 12) (.call 35 (pz 250 15 23) (.cons (.var 0 (pz 250 24 28)) .nil) (pz 250 15 29)) (pz 250 4 29))
      (.cons (.asg 3 false (pz 251 4 13) (.call 36 (pz 251 16 25) (.cons (.attr (.attr (.var 2 (pz 251 26 34)) 12 (pz 251 26 39)) 9 (pz 251 26 49)) (.cons (.var 1 (pz 251 51 57)) .nil)) (pz 251 16 58)) (pz 251 4 58))
      (.cons (.asg 4 false (pz 252 4 8) (.lst (.cons (.call 37 (pz 252 12 17) (.cons (.attr (.var 2 (pz 252 18 26)) 12 (pz 252 18 31)) (.cons (.attr (.var 2 (pz 252 33 41)) 11 (pz 252 33 52)) (.cons (.cst (.bool false) 0 (pz 252 54 59)) (.cons (.var 3 (pz 252 61 70)) .nil)))) (pz 252 12 71)) (.cons (.call 38 (pz 252 73 78) (.cons (.var 2 (pz 252 79 87)) (.cons (.var 3 (pz 252 89 98)) .nil)) (pz 252 73 99)) .nil)) (pz 252 11 100)) (pz 252 4 100))
      (.cons (.asg 5 false (pz 253 4 10) (.ife (.cmp .NotEq (.attr (.var 2 (pz 253 37 45)) 14 (pz 253 37 52)) (.lst .nil (pz 253 56 58)) (pz 253 37 58)) (.call 39 (pz 253 13 23) (.cons (.var 2 (pz 253 24 32)) .nil) (pz 253 13 33)) (.call 40 (pz 253 64 78) (.cons (.var 2 (pz 253 79 87)) .nil) (pz 253 64 88)) (pz 253 13 88)) (pz 253 4 88))
      (.cons (.ret (.call 41 (pz 254 11 16) (.cons (.bin .Add (.bin .Add (.var 4 (pz 254 17 21)) (.var 5 (pz 254 24 30)) (pz 254 17 30)) (.lst (.cons (.glb 42 (pz 254 34 41)) .nil) (pz 254 33 42)) (pz 254 17 42)) .nil) (pz 254 11 43)) (pz 254 4 43))
      .nil)))))⟩
noncomputable def f_law_bag : Fn :=
  ⟨1, [(sz "script", 1), (sz "first", 1), (sz "weight", 1)], (.cons (.asg 1 false (pz 257 4 9) (.ife (.cmp .NotEq (.var 0 (pz 257 25 31)) (.lst .nil (pz 257 35 37)) (pz 257 25 37)) (.sub (.var 0 (pz 257 12 18)) (.cst (.int 0) 0 (pz 257 19 20)) (pz 257 12 21)) (.cst (.int 0) 0 (pz 257 43 44)) (pz 257 12 44)) (pz 257 4 44))
      (.cons (.asg 2 false (pz 258 4 10) (.ife (.cmp .GtE (.var 1 (pz 258 22 27)) (.cst (.int 0) 0 (pz 258 31 32)) (pz 258 22 32)) (.var 1 (pz 258 13 18)) (.neg (.var 1 (pz 258 39 44)) (pz 258 38 44)) (pz 258 13 44)) (pz 258 4 44))
      (.cons (.ret (.dsp (.cons (.cst (.str "bag") 0 (pz 259 12 17)) (.cons (.cst (.str "store") 0 (pz 259 56 63)) .nil)) (.cons (.ife (.cmp .GtE (.var 2 (pz 259 29 35)) (.bin .Pow (.cst (.int 10) 0 (pz 259 39 41)) (.cst (.int 13) 0 (pz 259 45 47)) (pz 259 39 47)) (pz 259 29 47)) (.var 2 (pz 259 19 25)) (.cst (.int 0) 0 (pz 259 53 54)) (pz 259 19 54)) (.cons (.bin .Add (.bin .Mod (.bin .Add (.var 2 (pz 259 66 72)) (.bin .Mult (.cst (.int 3) 0 (pz 259 75 76)) (.bcall .int 43 (pz 259 79 82) (.cmp .Lt (.var 1 (pz 259 83 88)) (.cst (.int 0) 0 (pz 259 91 92)) (pz 259 83 92)) (pz 259 79 93)) (pz 259 75 93)) (pz 259 66 93)) (.cst (.int 2097143) 0 (pz 259 97 104)) (pz 259 65 104)) (.cst (.int 29) 0 (pz 259 107 109)) (pz 259 65 109)) .nil)) (pz 259 11 110)) (pz 259 4 110))
      .nil)))⟩
noncomputable def f_law_marble : Fn :=
  ⟨2, [(sz "bag", 1), (sz "many", 1), (sz "found", 1)], (.cons (.iff (.cmp .Gt (.sub (.var 0 (pz 261 7 10)) (.cst (.str "bag") 0 (pz 261 11 16)) (pz 261 7 17)) (.cst (.int 0) 0 (pz 261 20 21)) (pz 261 7 21)) (.cons (.asg 2 false (pz 262 8 13) (.bin .Mod (.sub (.var 0 (pz 262 16 19)) (.cst (.str "bag") 0 (pz 262 20 25)) (pz 262 16 26)) (.var 1 (pz 262 29 33)) (pz 262 16 33)) (pz 262 8 33))
      (.cons (.sit (.var 0 (pz 263 8 11)) (.cst (.str "bag") 0 (pz 263 12 17)) (pz 263 8 18) (.bin .FloorDiv (.sub (.var 0 (pz 263 21 24)) (.cst (.str "bag") 0 (pz 263 25 30)) (pz 263 21 31)) (.var 1 (pz 263 35 39)) (pz 263 21 39)) (pz 263 8 39))
      (.cons (.ret (.var 2 (pz 264 15 20)) (pz 264 8 20))
      .nil))) .nil ⟨261, 4, 264, 20⟩)
      (.cons (.sit (.var 0 (pz 265 4 7)) (.cst (.str "store") 0 (pz 265 8 15)) (pz 265 4 16) (.bin .Mod (.bin .Add (.bin .Mult (.sub (.var 0 (pz 265 20 23)) (.cst (.str "store") 0 (pz 265 24 31)) (pz 265 20 32)) (.cst (.int 48271) 0 (pz 265 35 40)) (pz 265 20 40)) (.cst (.int 5) 0 (pz 265 43 44)) (pz 265 20 44)) (.cst (.int 2147483647) 0 (pz 265 48 58)) (pz 265 19 58)) (pz 265 4 58))
      (.cons (.ret (.bin .Mod (.bin .FloorDiv (.sub (.var 0 (pz 266 11 14)) (.cst (.str "store") 0 (pz 266 15 22)) (pz 266 11 23)) (.cst (.int 43) 0 (pz 266 27 29)) (pz 266 11 29)) (.var 1 (pz 266 32 36)) (pz 266 11 36)) (pz 266 4 36))
      .nil)))⟩
noncomputable def f_law_sym : Fn :=
  ⟨1, [(sz "name", 1)], (.cons (.ret (.tup (.cons (.cst (.str "sym") 0 (pz 268 12 17)) (.cons (.var 0 (pz 268 19 23)) .nil)) 0 (pz 268 11 24)) (pz 268 4 24))
      .nil)⟩
noncomputable def f_law_fields : Fn :=
  ⟨2, [(sz "bag", 2), (sz "variables", 1), (sz "some", 2), z0, z0, z0], (.cons (.asg 2 false (pz 270 4 8) (.bin .Add (.lst (.cons (.cst .none 0 (pz 270 12 16)) (.cons (.call 44 (pz 270 18 26) (.cons (.cst (.str "Int64") 0 (pz 270 27 34)) .nil) (pz 270 18 35)) .nil)) (pz 270 11 36)) (.comp (.call 44 (pz 270 40 48) (.cons (.var 3 (pz 270 49 53)) .nil) (pz 270 40 54)) (.one 3 (pz 270 59 63)) .it (.var 1 (pz 270 67 76)) (.dead default) .nil [z0, z0, z0, (sz "name", 1)] ⟨.function, [(sz ".0", .local), (sz "name", .local), (sz "_law_sym", .globalImplicit)], false, false, []⟩ (pz 270 39 77)) (pz 270 11 77)) (pz 270 4 77))
      (.cons (.asg 2 false (pz 271 4 8) (.bin .Add (.var 2 (pz 271 11 15)) (.comp (.call 7 (pz 271 19 23) (.cons (.cst (.str "curly") 0 (pz 271 24 31)) (.cons (.tup (.cons (.call 44 (pz 271 34 42) (.cons (.cst (.str "Vector") 0 (pz 271 43 51)) .nil) (pz 271 34 52)) (.cons (.call 44 (pz 271 54 62) (.cons (.var 4 (pz 271 63 67)) .nil) (pz 271 54 68)) .nil)) 0 (pz 271 33 69)) .nil)) (pz 271 19 70)) (.one 4 (pz 271 75 79)) .it (.slc (.var 1 (pz 271 83 92)) .nil (.cons (.cst (.int 1) 0 (pz 271 94 95)) .nil) (pz 271 93 95) (pz 271 83 96)) (.dead default) .nil [z0, z0, z0, z0, (sz "name", 1)] ⟨.function, [(sz ".0", .local), (sz "name", .local), (sz "expr", .globalImplicit), (sz "_law_sym", .globalImplicit)], false, false, []⟩ (pz 271 18 97)) (pz 271 11 97)) (pz 271 4 97))
      (.cons (.ret (.comp (.tup (.cons (.bin .Add (.cst (.str "f") 0 (pz 272 13 16)) (.bcall .str 1 (pz 272 19 22) (.var 5 (pz 272 23 25)) (pz 272 19 26)) (pz 272 13 26)) (.cons (.sub (.var 2 (pz 272 28 32)) (.call 46 (pz 272 33 44) (.cons (.var 0 (pz 272 45 48)) (.cons (.bcall .len 4 (pz 272 50 53) (.var 2 (pz 272 54 58)) (pz 272 50 59)) .nil)) (pz 272 33 60)) (pz 272 28 61)) .nil)) 0 (pz 272 12 62)) (.one 5 (pz 272 67 69)) (.rng 45 (pz 272 73 78) (pz 272 73 99)) (.call 46 (pz 272 79 90) (.cons (.var 0 (pz 272 91 94)) (.cons (.cst (.int 4) 0 (pz 272 96 97)) .nil)) (pz 272 79 98)) (.dead default) .nil [(sz "bag", 2), z0, (sz "some", 2), z0, z0, (sz "at", 1)] ⟨.function, [(sz ".0", .local), (sz "at", .local), (sz "str", .globalImplicit), (sz "_law_marble", .globalImplicit), (sz "len", .globalImplicit), (sz "bag", .free), (sz "some", .free)], false, false, []⟩ (pz 272 11 100)) (pz 272 4 100))
      .nil)))⟩
noncomputable def f_law_field_tree : Fn :=
  ⟨1, [(sz "field", 1)], (.cons (.ret (.ife (.cmp .Is (.sub (.var 0 (pz 274 33 38)) (.cst (.int 1) 0 (pz 274 39 40)) (pz 274 33 41)) (.cst .none 0 (pz 274 45 49)) (pz 274 33 49)) (.call 44 (pz 274 11 19) (.cons (.sub (.var 0 (pz 274 20 25)) (.cst (.int 0) 0 (pz 274 26 27)) (pz 274 20 28)) .nil) (pz 274 11 29)) (.call 7 (pz 274 55 59) (.cons (.cst (.str "::") 0 (pz 274 60 64)) (.cons (.tup (.cons (.call 44 (pz 274 67 75) (.cons (.sub (.var 0 (pz 274 76 81)) (.cst (.int 0) 0 (pz 274 82 83)) (pz 274 76 84)) .nil) (pz 274 67 85)) (.cons (.sub (.var 0 (pz 274 87 92)) (.cst (.int 1) 0 (pz 274 93 94)) (pz 274 87 95)) .nil)) 0 (pz 274 66 96)) .nil)) (pz 274 55 97)) (pz 274 11 97)) (pz 274 4 97))
      .nil)⟩
noncomputable def f_law_maker : Fn :=
  ⟨3, [(sz "bag", 2), (sz "variables", 1), (sz "fields", 1), (sz "plain", 1), (sz "braced", 1), (sz "has_braces_ahead", 1), (sz "has_braces", 1), (sz "callee", 1), (sz "maker_part", 1), (sz "parts", 1), (sz "body", 1), (sz "is_wrapped", 1), (sz "head", 1), (sz "kind", 1), z0, z0, z0, z0], (.cons (.asg2 3 4 (pz 276 4 9) (pz 276 11 17) 0 (pz 276 4 17) (.call 44 (pz 276 21 29) (.cons (.cst (.str "P") 0 (pz 276 30 33)) .nil) (pz 276 21 34)) (.call 7 (pz 276 36 40) (.cons (.cst (.str "curly") 0 (pz 276 41 48)) (.cons (.bin .Add (.lst (.cons (.call 44 (pz 276 51 59) (.cons (.cst (.str "P") 0 (pz 276 60 63)) .nil) (pz 276 51 64)) .nil) (pz 276 50 65)) (.comp (.call 44 (pz 276 69 77) (.cons (.var 14 (pz 276 78 82)) .nil) (pz 276 69 83)) (.one 14 (pz 276 88 92)) .it (.var 1 (pz 276 96 105)) (.dead default) .nil [z0, z0, z0, z0, z0, z0, z0, z0, z0, z0, z0, z0, z0, z0, (sz "name", 1)] ⟨.function, [(sz ".0", .local), (sz "name", .local), (sz "_law_sym", .globalImplicit)], false, false, []⟩ (pz 276 68 106)) (pz 276 50 106)) .nil)) (pz 276 36 107)) 0 (pz 276 20 108) (pz 276 4 108))
      (.cons (.asg 5 false (pz 277 4 20) (.bop .And (.cons (.cmp .NotEq (.var 1 (pz 277 23 32)) (.lst .nil (pz 277 36 38)) (pz 277 23 38)) (.cons (.cmp .Eq (.call 46 (pz 277 43 54) (.cons (.var 0 (pz 277 55 58)) (.cons (.cst (.int 2) 0 (pz 277 60 61)) .nil)) (pz 277 43 62)) (.cst (.int 0) 0 (pz 277 66 67)) (pz 277 43 67)) .nil)) (pz 277 23 67)) (pz 277 4 67))
      (.cons (.asg 6 false (pz 278 4 14) (.bop .And (.cons (.cmp .NotEq (.var 1 (pz 278 17 26)) (.lst .nil (pz 278 30 32)) (pz 278 17 32)) (.cons (.cmp .Eq (.call 46 (pz 278 37 48) (.cons (.var 0 (pz 278 49 52)) (.cons (.cst (.int 2) 0 (pz 278 54 55)) .nil)) (pz 278 37 56)) (.cst (.int 0) 0 (pz 278 60 61)) (pz 278 37 61)) .nil)) (pz 278 17 61)) (pz 278 4 61))
      (.cons (.asg 7 false (pz 279 4 10) (.ife (.var 5 (pz 279 23 39)) (.var 4 (pz 279 13 19)) (.var 3 (pz 279 45 50)) (pz 279 13 50)) (pz 279 4 50))
      (.cons (.asg 8 false (pz 280 4 14) (.ife (.var 6 (pz 280 94 104)) (.call 7 (pz 280 17 21) (.cons (.cst (.str "curly") 0 (pz 280 22 29)) (.cons (.bin .Add (.lst (.cons (.call 44 (pz 280 32 40) (.cons (.cst (.str "new") 0 (pz 280 41 46)) .nil) (pz 280 32 47)) .nil) (pz 280 31 48)) (.comp (.call 44 (pz 280 52 60) (.cons (.var 15 (pz 280 61 65)) .nil) (pz 280 52 66)) (.one 15 (pz 280 71 75)) .it (.var 1 (pz 280 79 88)) (.dead default) .nil [z0, z0, z0, z0, z0, z0, z0, z0, z0, z0, z0, z0, z0, z0, z0, (sz "name", 1)] ⟨.function, [(sz ".0", .local), (sz "name", .local), (sz "_law_sym", .globalImplicit)], false, false, []⟩ (pz 280 51 89)) (pz 280 31 89)) .nil)) (pz 280 17 90)) (.call 44 (pz 280 110 118) (.cons (.cst (.str "new") 0 (pz 280 119 124)) .nil) (pz 280 110 125)) (pz 280 17 125)) (pz 280 4 125))
      (.cons (.asg 9 false (pz 281 4 9) (.comp (.sub (.lst (.cons (.call 44 (pz 281 14 22) (.cons (.cst (.str "q") 0 (pz 281 23 26)) .nil) (pz 281 14 27)) (.cons (.tup (.cons (.cst (.str "int") 0 (pz 281 30 35)) (.cons (.var 16 (pz 281 37 39)) .nil)) 0 (pz 281 29 40)) .nil)) (pz 281 13 41)) (.call 46 (pz 281 42 53) (.cons (.var 0 (pz 281 54 57)) (.cons (.cst (.int 2) 0 (pz 281 59 60)) .nil)) (pz 281 42 61)) (pz 281 13 62)) (.one 16 (pz 281 67 69)) (.rng 45 (pz 281 73 78) (pz 281 73 91)) (.bcall .len 4 (pz 281 79 82) (.var 2 (pz 281 83 89)) (pz 281 79 90)) (.dead default) .nil [(sz "bag", 2), z0, z0, z0, z0, z0, z0, z0, z0, z0, z0, z0, z0, z0, z0, z0, (sz "at", 1)] ⟨.function, [(sz ".0", .local), (sz "at", .local), (sz "_law_sym", .globalImplicit), (sz "_law_marble", .globalImplicit), (sz "bag", .free)], false, false, []⟩ (pz 281 12 92)) (pz 281 4 92))
      (.cons (.asg2 10 11 (pz 282 4 8) (pz 282 10 20) 0 (pz 282 4 20) (.call 7 (pz 282 24 28) (.cons (.cst (.str "call") 0 (pz 282 29 35)) (.cons (.bin .Add (.lst (.cons (.var 8 (pz 282 38 48)) .nil) (pz 282 37 49)) (.var 9 (pz 282 52 57)) (pz 282 37 57)) .nil)) (pz 282 24 58)) (.cmp .Eq (.call 46 (pz 282 60 71) (.cons (.var 0 (pz 282 72 75)) (.cons (.cst (.int 2) 0 (pz 282 77 78)) .nil)) (pz 282 60 79)) (.cst (.int 0) 0 (pz 282 83 84)) (pz 282 60 84)) 0 (pz 282 23 85) (pz 282 4 85))
      (.cons (.iff (.var 11 (pz 283 7 17)) (.cons (.asg 10 false (pz 284 8 12) (.call 7 (pz 284 15 19) (.cons (.cst (.str "block") 0 (pz 284 20 27)) (.cons (.tup (.cons (.call 7 (pz 284 30 34) (.cons (.cst (.str "call") 0 (pz 284 35 41)) (.cons (.tup (.cons (.call 44 (pz 284 44 52) (.cons (.cst (.str "seen") 0 (pz 284 53 59)) .nil) (pz 284 44 60)) (.cons (.var 10 (pz 284 62 66)) .nil)) 0 (pz 284 43 67)) .nil)) (pz 284 30 68)) .nil) 0 (pz 284 29 70)) .nil)) (pz 284 15 71)) (pz 284 8 71))
      .nil) .nil ⟨283, 4, 284, 71⟩)
      (.cons (.asg 12 false (pz 285 4 8) (.call 7 (pz 285 11 15) (.cons (.cst (.str "call") 0 (pz 285 16 22)) (.cons (.tup (.cons (.var 7 (pz 285 25 31)) (.cons (.call 44 (pz 285 33 41) (.cons (.cst (.str "q") 0 (pz 285 42 45)) .nil) (pz 285 33 46)) .nil)) 0 (pz 285 24 47)) .nil)) (pz 285 11 48)) (pz 285 4 48))
      (.cons (.iff (.cmp .NotEq (.var 1 (pz 286 7 16)) (.lst .nil (pz 286 20 22)) (pz 286 7 22)) (.cons (.asg 12 false (pz 287 8 12) (.call 7 (pz 287 15 19) (.cons (.cst (.str "where") 0 (pz 287 20 27)) (.cons (.bin .Add (.lst (.cons (.var 12 (pz 287 30 34)) .nil) (pz 287 29 35)) (.comp (.call 44 (pz 287 39 47) (.cons (.var 17 (pz 287 48 52)) .nil) (pz 287 39 53)) (.one 17 (pz 287 58 62)) .it (.var 1 (pz 287 66 75)) (.dead default) .nil [z0, z0, z0, z0, z0, z0, z0, z0, z0, z0, z0, z0, z0, z0, z0, z0, z0, (sz "name", 1)] ⟨.function, [(sz ".0", .local), (sz "name", .local), (sz "_law_sym", .globalImplicit)], false, false, []⟩ (pz 287 38 76)) (pz 287 29 76)) .nil)) (pz 287 15 77)) (pz 287 8 77))
      .nil) .nil ⟨286, 4, 287, 77⟩)
      (.cons (.asg 13 false (pz 288 4 8) (.ife (.bop .Or (.cons (.var 6 (pz 288 21 31)) (.cons (.var 5 (pz 288 35 51)) .nil)) (pz 288 21 51)) (.var 4 (pz 288 11 17)) (.ife (.cmp .Eq (.var 1 (pz 288 66 75)) (.lst .nil (pz 288 79 81)) (pz 288 66 81)) (.var 3 (pz 288 57 62)) (.cst .none 0 (pz 288 87 91)) (pz 288 57 91)) (pz 288 11 91)) (pz 288 4 91))
      (.cons (.ret (.tup (.cons (.call 7 (pz 289 12 16) (.cons (.cst (.str "function") 0 (pz 289 17 27)) (.cons (.tup (.cons (.var 12 (pz 289 30 34)) (.cons (.var 10 (pz 289 36 40)) .nil)) 0 (pz 289 29 41)) .nil)) (pz 289 12 42)) (.cons (.var 7 (pz 289 44 50)) (.cons (.var 13 (pz 289 52 56)) (.cons (.var 9 (pz 289 58 63)) (.cons (.var 11 (pz 289 65 75)) .nil))))) 0 (pz 289 11 76)) (pz 289 4 76))
      .nil))))))))))))⟩
noncomputable def f_law_read : Fn :=
  ⟨2, [(sz "tree", 1), (sz "env", 2), (sz "callee", 1), z0, z0, z0], (.cons (.iff (.cmp .Eq (.sub (.var 0 (pz 291 7 11)) (.cst (.int 0) 0 (pz 291 12 13)) (pz 291 7 14)) (.cst (.str "sym") 0 (pz 291 18 23)) (pz 291 7 23)) (.cons (.ret (.meth (.var 1 (pz 292 15 18)) 2 (pz 292 15 22) (.cons (.sub (.var 0 (pz 292 23 27)) (.cst (.int 1) 0 (pz 292 28 29)) (pz 292 23 30)) (.cons (.tup (.cons (.cst (.str "name") 0 (pz 292 33 39)) (.cons (.sub (.var 0 (pz 292 41 45)) (.cst (.int 1) 0 (pz 292 46 47)) (pz 292 41 48)) .nil)) 0 (pz 292 32 49)) .nil)) (pz 292 15 50)) (pz 292 8 50))
      .nil) .nil ⟨291, 4, 292, 50⟩)
      (.cons (.iff (.cmp .NotEq (.sub (.var 0 (pz 293 7 11)) (.cst (.int 0) 0 (pz 293 12 13)) (pz 293 7 14)) (.cst (.str "expr") 0 (pz 293 18 24)) (pz 293 7 24)) (.cons (.ret (.sub (.var 0 (pz 294 15 19)) (.cst (.int 1) 0 (pz 294 20 21)) (pz 294 15 22)) (pz 294 8 22))
      .nil) .nil ⟨293, 4, 294, 22⟩)
      (.cons (.iff (.cmp .Eq (.sub (.var 0 (pz 295 7 11)) (.cst (.int 1) 0 (pz 295 12 13)) (pz 295 7 14)) (.cst (.str "block") 0 (pz 295 18 25)) (pz 295 7 25)) (.cons (.ret (.sub (.comp (.call 47 (pz 296 16 25) (.cons (.var 3 (pz 296 26 30)) (.cons (.var 1 (pz 296 32 35)) .nil)) (pz 296 16 36)) (.one 3 (pz 296 41 45)) .it (.sub (.var 0 (pz 296 49 53)) (.cst (.int 2) 0 (pz 296 54 55)) (pz 296 49 56)) (.dead default) .nil [z0, (sz "env", 2), z0, (sz "part", 1)] ⟨.function, [(sz ".0", .local), (sz "part", .local), (sz "_law_read", .globalImplicit), (sz "env", .free)], false, false, []⟩ (pz 296 15 57)) (.neg (.cst (.int 1) 0 (pz 296 59 60)) (pz 296 58 60)) (pz 296 15 61)) (pz 296 8 61))
      .nil) .nil ⟨295, 4, 296, 61⟩)
      (.cons (.asg 2 false (pz 297 4 10) (.sub (.sub (.var 0 (pz 297 13 17)) (.cst (.int 2) 0 (pz 297 18 19)) (pz 297 13 20)) (.cst (.int 0) 0 (pz 297 21 22)) (pz 297 13 23)) (pz 297 4 23))
      (.cons (.iff (.cmp .Eq (.var 2 (pz 298 7 13)) (.tup (.cons (.cst (.str "value") 0 (pz 298 18 25)) (.cons (.tup (.cons (.cst (.str "builtin") 0 (pz 298 28 37)) (.cons (.cst (.str "new") 0 (pz 298 39 44)) .nil)) 0 (pz 298 27 45)) .nil)) 0 (pz 298 17 46)) (pz 298 7 46)) (.cons (.ret (.tup (.cons (.cst (.str "made") 0 (pz 299 16 22)) (.cons (.sub (.sub (.var 0 (pz 299 24 28)) (.cst (.int 2) 0 (pz 299 29 30)) (pz 299 24 31)) (.cst (.int 1) 0 (pz 299 32 33)) (pz 299 24 34)) (.cons (.comp (.call 47 (pz 299 37 46) (.cons (.var 4 (pz 299 47 51)) (.cons (.var 1 (pz 299 53 56)) .nil)) (pz 299 37 57)) (.one 4 (pz 299 62 66)) .it (.slc (.sub (.var 0 (pz 299 70 74)) (.cst (.int 2) 0 (pz 299 75 76)) (pz 299 70 77)) (.cons (.cst (.int 2) 0 (pz 299 78 79)) .nil) .nil (pz 299 78 80) (pz 299 70 81)) (.dead default) .nil [z0, (sz "env", 2), z0, z0, (sz "part", 1)] ⟨.function, [(sz ".0", .local), (sz "part", .local), (sz "_law_read", .globalImplicit), (sz "env", .free)], false, false, []⟩ (pz 299 36 82)) .nil))) 0 (pz 299 15 83)) (pz 299 8 83))
      .nil) .nil ⟨298, 4, 299, 83⟩)
      (.cons (.iff (.cmp .Eq (.var 2 (pz 300 7 13)) (.tup (.cons (.cst (.str "value") 0 (pz 300 18 25)) (.cons (.tup (.cons (.cst (.str "fun") 0 (pz 300 28 33)) (.cons (.cst (.str "convert") 0 (pz 300 35 44)) .nil)) 0 (pz 300 27 45)) .nil)) 0 (pz 300 17 46)) (pz 300 7 46)) (.cons (.ret (.tup (.cons (.cst (.str "as") 0 (pz 301 16 20)) (.cons (.sub (.sub (.var 0 (pz 301 22 26)) (.cst (.int 2) 0 (pz 301 27 28)) (pz 301 22 29)) (.cst (.int 1) 0 (pz 301 30 31)) (pz 301 22 32)) (.cons (.call 47 (pz 301 34 43) (.cons (.sub (.sub (.var 0 (pz 301 44 48)) (.cst (.int 2) 0 (pz 301 49 50)) (pz 301 44 51)) (.cst (.int 2) 0 (pz 301 52 53)) (pz 301 44 54)) (.cons (.var 1 (pz 301 56 59)) .nil)) (pz 301 34 60)) .nil))) 0 (pz 301 15 61)) (pz 301 8 61))
      .nil) .nil ⟨300, 4, 301, 61⟩)
      (.cons (.ret (.tup (.cons (.cst (.str "called") 0 (pz 302 12 20)) (.cons (.var 2 (pz 302 22 28)) (.cons (.comp (.call 47 (pz 302 31 40) (.cons (.var 5 (pz 302 41 45)) (.cons (.var 1 (pz 302 47 50)) .nil)) (pz 302 31 51)) (.one 5 (pz 302 56 60)) .it (.slc (.sub (.var 0 (pz 302 64 68)) (.cst (.int 2) 0 (pz 302 69 70)) (pz 302 64 71)) (.cons (.cst (.int 1) 0 (pz 302 72 73)) .nil) .nil (pz 302 72 74) (pz 302 64 75)) (.dead default) .nil [z0, (sz "env", 2), z0, z0, z0, (sz "part", 1)] ⟨.function, [(sz ".0", .local), (sz "part", .local), (sz "_law_read", .globalImplicit), (sz "env", .free)], false, false, []⟩ (pz 302 30 76)) .nil))) 0 (pz 302 11 77)) (pz 302 4 77))
      .nil)))))))⟩
noncomputable def f_law_seen : Fn :=
  ⟨1, [(sz "tree", 1), (sz "head", 1), (sz "variables", 1), (sz "names", 1), (sz "asked", 1), (sz "argument", 1), (sz "is_told", 1), z0, z0], (.cons (.asg2 1 2 (pz 304 4 8) (pz 304 10 19) 0 (pz 304 4 19) (.sub (.sub (.var 0 (pz 304 23 27)) (.cst (.int 2) 0 (pz 304 28 29)) (pz 304 23 30)) (.cst (.int 0) 0 (pz 304 31 32)) (pz 304 23 33)) (.tup .nil 0 (pz 304 35 37)) 0 (pz 304 22 38) (pz 304 4 38))
      (.cons (.iff (.cmp .Eq (.sub (.var 1 (pz 305 7 11)) (.cst (.int 1) 0 (pz 305 12 13)) (pz 305 7 14)) (.cst (.str "where") 0 (pz 305 18 25)) (pz 305 7 25)) (.cons (.asg2 2 1 (pz 306 8 17) (pz 306 19 23) 0 (pz 306 8 23) (.slc (.sub (.var 1 (pz 306 27 31)) (.cst (.int 2) 0 (pz 306 32 33)) (pz 306 27 34)) (.cons (.cst (.int 1) 0 (pz 306 35 36)) .nil) .nil (pz 306 35 37) (pz 306 27 38)) (.sub (.sub (.var 1 (pz 306 40 44)) (.cst (.int 2) 0 (pz 306 45 46)) (pz 306 40 47)) (.cst (.int 0) 0 (pz 306 48 49)) (pz 306 40 50)) 0 (pz 306 26 51) (pz 306 8 51))
      .nil) .nil ⟨305, 4, 306, 51⟩)
      (.cons (.asg2 3 4 (pz 307 4 9) (pz 307 11 16) 0 (pz 307 4 16) (.lst .nil (pz 307 20 22)) (.lst .nil (pz 307 24 26)) 0 (pz 307 19 27) (pz 307 4 27))
      (.cons (.for_ (.one 5 (pz 308 8 16)) .it (.slc (.sub (.var 1 (pz 308 20 24)) (.cst (.int 2) 0 (pz 308 25 26)) (pz 308 20 27)) (.cons (.cst (.int 1) 0 (pz 308 28 29)) .nil) .nil (pz 308 28 30) (pz 308 20 31)) (.dead default) (.cons (.asg 6 false (pz 309 8 15) (.cmp .Eq (.sub (.var 5 (pz 309 18 26)) (.cst (.int 0) 0 (pz 309 27 28)) (pz 309 18 29)) (.cst (.str "expr") 0 (pz 309 33 39)) (pz 309 18 39)) (pz 309 8 39))
      (.cons (.xpr (.meth (.var 3 (pz 310 8 13)) 7 (pz 310 8 20) (.cons (.ife (.var 6 (pz 310 42 49)) (.sub (.sub (.sub (.var 5 (pz 310 21 29)) (.cst (.int 2) 0 (pz 310 30 31)) (pz 310 21 32)) (.cst (.int 0) 0 (pz 310 33 34)) (pz 310 21 35)) (.cst (.int 1) 0 (pz 310 36 37)) (pz 310 21 38)) (.sub (.var 5 (pz 310 55 63)) (.cst (.int 1) 0 (pz 310 64 65)) (pz 310 55 66)) (pz 310 21 66)) .nil) (pz 310 8 67)) (pz 310 8 67))
      (.cons (.xpr (.meth (.var 4 (pz 311 8 13)) 7 (pz 311 8 20) (.cons (.ife (.var 6 (pz 311 39 46)) (.sub (.sub (.var 5 (pz 311 21 29)) (.cst (.int 2) 0 (pz 311 30 31)) (pz 311 21 32)) (.cst (.int 1) 0 (pz 311 33 34)) (pz 311 21 35)) (.cst .none 0 (pz 311 52 56)) (pz 311 21 56)) .nil) (pz 311 8 57)) (pz 311 8 57))
      .nil))) ⟨308, 4, 311, 57⟩)
      (.cons (.ret (.tup (.cons (.sub (.sub (.var 1 (pz 312 12 16)) (.cst (.int 2) 0 (pz 312 17 18)) (pz 312 12 19)) (.cst (.int 0) 0 (pz 312 20 21)) (pz 312 12 22)) (.cons (.var 2 (pz 312 24 33)) (.cons (.var 4 (pz 312 35 40)) (.cons (.call 47 (pz 312 42 51) (.cons (.sub (.sub (.var 0 (pz 312 52 56)) (.cst (.int 2) 0 (pz 312 57 58)) (pz 312 52 59)) (.cst (.int 1) 0 (pz 312 60 61)) (pz 312 52 62)) (.cons (.bcall .dict 11 (pz 312 64 68) (.comp (.tup (.cons (.var 8 (pz 312 71 75)) (.cons (.bin .Add (.cst (.int 7) 0 (pz 312 77 78)) (.var 7 (pz 312 81 83)) (pz 312 77 83)) .nil)) 0 (pz 312 70 84)) (.many [(7, (pz 312 89 91)), (8, (pz 312 93 97))] 0 (pz 312 89 97)) (.enm 48 (pz 312 101 110) (pz 312 101 117)) (.var 3 (pz 312 111 116)) (.dead default) .nil [z0, z0, z0, z0, z0, z0, z0, (sz "at", 1), (sz "name", 1)] ⟨.function, [(sz ".0", .local), (sz "at", .local), (sz "name", .local)], false, false, []⟩ (pz 312 69 118)) (pz 312 64 119)) .nil)) (pz 312 42 120)) .nil)))) 0 (pz 312 11 121)) (pz 312 4 121))
      .nil)))))⟩
noncomputable def f_law_default_due : Fn :=
  ⟨3, [(sz "variables", 1), (sz "trees", 1), (sz "fields", 2), (sz "plain", 1), (sz "worths", 2), (sz "other_worths", 1), (sz "kinds", 1), (sz "found", 1), (sz "braced", 1), (sz "told", 2), z0, z0, z0, z0, z0, z0], (.cons (.asg 3 false (pz 314 4 9) (.call 44 (pz 314 12 20) (.cons (.cst (.str "P") 0 (pz 314 21 24)) .nil) (pz 314 12 25)) (pz 314 4 25))
      (.cons (.asg 4 false (pz 315 4 10) (.comp (.bin .Add (.cst (.int 7) 0 (pz 315 14 15)) (.var 10 (pz 315 18 20)) (pz 315 14 20)) (.one 10 (pz 315 25 27)) (.rng 45 (pz 315 31 36) (pz 315 31 49)) (.bcall .len 4 (pz 315 37 40) (.var 2 (pz 315 41 47)) (pz 315 37 48)) (.dead default) .nil [z0, z0, z0, z0, z0, z0, z0, z0, z0, z0, (sz "at", 1)] ⟨.function, [(sz ".0", .local), (sz "at", .local)], false, false, []⟩ (pz 315 13 50)) (pz 315 4 50))
      (.cons (.asg 5 false (pz 316 4 16) (.comp (.ife (.cmp .Is (.sub (.sub (.var 2 (pz 316 34 40)) (.var 11 (pz 316 41 43)) (pz 316 34 44)) (.cst (.int 1) 0 (pz 316 45 46)) (pz 316 34 47)) (.cst .none 0 (pz 316 51 55)) (pz 316 34 55)) (.sub (.var 4 (pz 316 20 26)) (.var 11 (pz 316 27 29)) (pz 316 20 30)) (.tup (.cons (.cst (.str "as") 0 (pz 316 62 66)) (.cons (.sub (.sub (.var 2 (pz 316 68 74)) (.var 11 (pz 316 75 77)) (pz 316 68 78)) (.cst (.int 1) 0 (pz 316 79 80)) (pz 316 68 81)) (.cons (.sub (.var 4 (pz 316 83 89)) (.var 11 (pz 316 90 92)) (pz 316 83 93)) .nil))) 0 (pz 316 61 94)) (pz 316 20 94)) (.one 11 (pz 316 99 101)) (.rng 45 (pz 316 105 110) (pz 316 105 123)) (.bcall .len 4 (pz 316 111 114) (.var 2 (pz 316 115 121)) (pz 316 111 122)) (.dead default) .nil [z0, z0, (sz "fields", 2), z0, (sz "worths", 2), z0, z0, z0, z0, z0, z0, (sz "at", 1)] ⟨.function, [(sz ".0", .local), (sz "at", .local), (sz "fields", .free), (sz "worths", .free)], false, false, []⟩ (pz 316 19 124)) (pz 316 4 124))
      (.cons (.asg 6 false (pz 317 4 9) (.comp (.var 13 (pz 317 13 17)) (.many [(12, (pz 317 22 26)), (13, (pz 317 28 32))] 0 (pz 317 22 32)) .it (.var 2 (pz 317 36 42)) (.dead default) .nil [z0, z0, z0, z0, z0, z0, z0, z0, z0, z0, z0, z0, (sz "name", 1), (sz "kind", 1)] ⟨.function, [(sz ".0", .local), (sz "name", .local), (sz "kind", .local)], false, false, []⟩ (pz 317 12 43)) (pz 317 4 43))
      (.cons (.iff (.cmp .Eq (.var 0 (pz 318 7 16)) (.lst .nil (pz 318 20 22)) (pz 318 7 22)) (.cons (.asg 7 true (pz 319 8 13) (.lst (.cons (.tup (.cons (.var 3 (pz 319 18 23)) (.cons (.tup .nil 0 (pz 319 25 27)) (.cons (.var 6 (pz 319 29 34)) (.cons (.tup (.cons (.cst (.str "made") 0 (pz 319 37 43)) (.cons (.var 3 (pz 319 45 50)) (.cons (.var 4 (pz 319 52 58)) .nil))) 0 (pz 319 36 59)) .nil)))) 0 (pz 319 17 60)) .nil) (pz 319 16 61)) (pz 319 8 61))
      (.cons (.iff (.cmp .NotEq (.var 6 (pz 320 11 16)) (.bin .Mult (.lst (.cons (.cst .none 0 (pz 320 21 25)) .nil) (pz 320 20 26)) (.bcall .len 4 (pz 320 29 32) (.var 6 (pz 320 33 38)) (pz 320 29 39)) (pz 320 20 39)) (pz 320 11 39)) (.cons (.xpr (.meth (.var 7 (pz 321 12 17)) 7 (pz 321 12 24) (.cons (.tup (.cons (.var 3 (pz 321 26 31)) (.cons (.tup .nil 0 (pz 321 33 35)) (.cons (.bin .Mult (.lst (.cons (.cst .none 0 (pz 321 38 42)) .nil) (pz 321 37 43)) (.bcall .len 4 (pz 321 46 49) (.var 6 (pz 321 50 55)) (pz 321 46 56)) (pz 321 37 56)) (.cons (.tup (.cons (.cst (.str "made") 0 (pz 321 59 65)) (.cons (.var 3 (pz 321 67 72)) (.cons (.var 5 (pz 321 74 86)) .nil))) 0 (pz 321 58 87)) .nil)))) 0 (pz 321 25 88)) .nil) (pz 321 12 89)) (pz 321 12 89))
      .nil) .nil ⟨320, 8, 321, 89⟩)
      (.cons (.ret (.var 7 (pz 322 15 20)) (pz 322 8 20))
      .nil))) .nil ⟨318, 4, 322, 20⟩)
      (.cons (.asg 8 false (pz 323 4 10) (.call 7 (pz 323 13 17) (.cons (.cst (.str "curly") 0 (pz 323 18 25)) (.cons (.bin .Add (.lst (.cons (.var 3 (pz 323 28 33)) .nil) (pz 323 27 34)) (.comp (.call 44 (pz 323 38 46) (.cons (.var 14 (pz 323 47 51)) .nil) (pz 323 38 52)) (.one 14 (pz 323 57 61)) .it (.var 0 (pz 323 65 74)) (.dead default) .nil [z0, z0, z0, z0, z0, z0, z0, z0, z0, z0, z0, z0, z0, z0, (sz "name", 1)] ⟨.function, [(sz ".0", .local), (sz "name", .local), (sz "_law_sym", .globalImplicit)], false, false, []⟩ (pz 323 37 75)) (pz 323 27 75)) .nil)) (pz 323 13 76)) (pz 323 4 76))
      (.cons (.asg 7 true (pz 324 4 9) (.lst (.cons (.tup (.cons (.var 8 (pz 324 14 20)) (.cons (.bcall .tuple 0 (pz 324 22 27) (.var 1 (pz 324 28 33)) (pz 324 22 34)) (.cons (.bin .Mult (.lst (.cons (.cst .none 0 (pz 324 37 41)) .nil) (pz 324 36 42)) (.bcall .len 4 (pz 324 45 48) (.var 6 (pz 324 49 54)) (pz 324 45 55)) (pz 324 36 55)) (.cons (.tup (.cons (.cst (.str "made") 0 (pz 324 58 64)) (.cons (.var 8 (pz 324 66 72)) (.cons (.var 5 (pz 324 74 86)) .nil))) 0 (pz 324 57 87)) .nil)))) 0 (pz 324 13 88)) .nil) (pz 324 12 89)) (pz 324 4 89))
      (.cons (.asg 9 false (pz 325 4 8) (.bcall .str 1 (pz 325 11 14) (.var 6 (pz 325 15 20)) (pz 325 11 21)) (pz 325 4 21))
      (.cons (.iff (.cmp .Eq (.comp (.var 15 (pz 326 8 12)) (.one 15 (pz 326 17 21)) .it (.var 0 (pz 326 25 34)) (.dead default) (.cons (.cmp .Eq (.meth (.var 9 (pz 326 38 42)) 20 (pz 326 38 48) (.cons (.bin .Add (.bin .Add (.cst (.str "'") 0 (pz 326 49 52)) (.var 15 (pz 326 55 59)) (pz 326 49 59)) (.cst (.str "'") 0 (pz 326 62 65)) (pz 326 49 65)) .nil) (pz 326 38 66)) (.cst (.int 0) 0 (pz 326 70 71)) (pz 326 38 71)) .nil) [z0, z0, z0, z0, z0, z0, z0, z0, z0, (sz "told", 2), z0, z0, z0, z0, z0, (sz "name", 1)] ⟨.function, [(sz ".0", .local), (sz "name", .local), (sz "told", .free)], false, false, []⟩ (pz 326 7 72)) (.lst .nil (pz 326 76 78)) (pz 326 7 78)) (.cons (.xpr (.meth (.var 7 (pz 327 8 13)) 7 (pz 327 8 20) (.cons (.tup (.cons (.var 3 (pz 327 22 27)) (.cons (.bcall .tuple 0 (pz 327 29 34) (.var 1 (pz 327 35 40)) (pz 327 29 41)) (.cons (.var 6 (pz 327 43 48)) (.cons (.tup (.cons (.cst (.str "made") 0 (pz 327 51 57)) (.cons (.var 8 (pz 327 59 65)) (.cons (.var 4 (pz 327 67 73)) .nil))) 0 (pz 327 50 74)) .nil)))) 0 (pz 327 21 75)) .nil) (pz 327 8 76)) (pz 327 8 76))
      .nil) .nil ⟨326, 4, 327, 76⟩)
      (.cons (.ret (.var 7 (pz 328 11 16)) (pz 328 4 16))
      .nil))))))))))⟩
noncomputable def f_law_rows_due : Fn :=
  ⟨5, [(sz "is_mutable", 1), (sz "above", 1), (sz "variables", 1), (sz "uppers", 1), (sz "fields", 1), (sz "name", 1), (sz "table", 1), (sz "anything", 1), (sz "begin", 1), (sz "upper", 1), (sz "end", 1), (sz "kind", 1), z0, z0], (.cons (.asg 6 false (pz 330 4 9) (.bcall .dict 11 (pz 330 12 16) (.comp (.tup (.cons (.var 13 (pz 330 19 23)) (.cons (.tup (.cons (.cst (.str "value") 0 (pz 330 26 33)) (.cons (.tup (.cons (.cst (.str "type") 0 (pz 330 36 42)) (.cons (.tup (.cons (.cst (.str "var") 0 (pz 330 45 50)) (.cons (.bin .Add (.bin .Add (.var 13 (pz 330 52 56)) (.cst (.str ".") 0 (pz 330 59 62)) (pz 330 52 62)) (.bcall .str 1 (pz 330 65 68) (.bin .Add (.var 12 (pz 330 69 71)) (.cst (.int 1) 0 (pz 330 74 75)) (pz 330 69 75)) (pz 330 65 76)) (pz 330 52 76)) .nil)) 0 (pz 330 44 77)) .nil)) 0 (pz 330 35 78)) .nil)) 0 (pz 330 25 79)) .nil)) 0 (pz 330 18 80)) (.many [(12, (pz 330 85 87)), (13, (pz 330 89 93))] 0 (pz 330 85 93)) (.enm 48 (pz 330 97 106) (pz 330 97 117)) (.var 2 (pz 330 107 116)) (.dead default) .nil [z0, z0, z0, z0, z0, z0, z0, z0, z0, z0, z0, z0, (sz "at", 1), (sz "name", 1)] ⟨.function, [(sz ".0", .local), (sz "at", .local), (sz "name", .local), (sz "str", .globalImplicit)], false, false, []⟩ (pz 330 17 118)) (pz 330 12 119)) (pz 330 4 119))
      (.cons (.asg 7 false (pz 331 4 12) (.tup (.cons (.cst (.str "value") 0 (pz 331 16 23)) (.cons (.tup (.cons (.cst (.str "type") 0 (pz 331 26 32)) (.cons (.tup (.cons (.cst (.str "name") 0 (pz 331 35 41)) (.cons (.cst (.str "Any") 0 (pz 331 43 48)) (.cons (.tup .nil 0 (pz 331 50 52)) .nil))) 0 (pz 331 34 53)) .nil)) 0 (pz 331 25 54)) .nil)) 0 (pz 331 15 55)) (pz 331 4 55))
      (.cons (.asg 8 true (pz 332 4 9) (.lst (.cons (.tup (.cons (.cst (.str "value") 0 (pz 332 14 21)) (.cons (.tup (.cons (.cst (.str "builtin") 0 (pz 332 24 33)) (.cons (.cst (.str "begin_kind") 0 (pz 332 35 47)) .nil)) 0 (pz 332 23 48)) .nil)) 0 (pz 332 13 49)) (.cons (.tup (.cons (.cst (.str "value") 0 (pz 332 52 59)) (.cons (.tup (.cons (.cst (.str "sym") 0 (pz 332 62 67)) (.cons (.cst (.str "P") 0 (pz 332 69 72)) .nil)) 0 (pz 332 61 73)) .nil)) 0 (pz 332 51 74)) (.cons (.tup (.cons (.cst (.str "bool") 0 (pz 332 77 83)) (.cons (.var 0 (pz 332 85 95)) .nil)) 0 (pz 332 76 96)) (.cons (.tup (.cons (.cst (.str "bool") 0 (pz 332 99 105)) (.cons (.cst (.bool false) 0 (pz 332 107 112)) .nil)) 0 (pz 332 98 113)) .nil)))) (pz 332 12 114)) (pz 332 4 114))
      (.cons (.xpr (.meth (.var 8 (pz 333 4 9)) 7 (pz 333 4 16) (.cons (.ife (.cmp .Is (.var 1 (pz 333 29 34)) (.cst .none 0 (pz 333 38 42)) (pz 333 29 42)) (.var 7 (pz 333 17 25)) (.call 49 (pz 333 48 56) (.cons (.var 1 (pz 333 57 62)) (.cons (.var 6 (pz 333 64 69)) .nil)) (pz 333 48 70)) (pz 333 17 70)) .nil) (pz 333 4 71)) (pz 333 4 71))
      (.cons (.for_ (.many [(5, (pz 334 8 12)), (9, (pz 334 14 19))] 0 (pz 334 8 19)) (.zip 50 (pz 334 23 26) (pz 334 23 45)) (.var 2 (pz 334 27 36)) (.var 3 (pz 334 38 44)) (.cons (.xpr (.meth (.var 8 (pz 335 8 13)) 17 (pz 335 8 20) (.cons (.lst (.cons (.tup (.cons (.cst (.str "value") 0 (pz 335 23 30)) (.cons (.tup (.cons (.cst (.str "sym") 0 (pz 335 33 38)) (.cons (.sub (.sub (.sub (.sub (.var 6 (pz 335 40 45)) (.var 5 (pz 335 46 50)) (pz 335 40 51)) (.cst (.int 1) 0 (pz 335 52 53)) (pz 335 40 54)) (.cst (.int 1) 0 (pz 335 55 56)) (pz 335 40 57)) (.cst (.int 1) 0 (pz 335 58 59)) (pz 335 40 60)) .nil)) 0 (pz 335 32 61)) .nil)) 0 (pz 335 22 62)) (.cons (.tup (.cons (.cst (.str "value") 0 (pz 335 65 72)) (.cons (.tup (.cons (.cst (.str "type") 0 (pz 335 75 81)) (.cons (.tup (.cons (.cst (.str "bottom") 0 (pz 335 84 92)) .nil) 0 (pz 335 83 94)) .nil)) 0 (pz 335 74 95)) .nil)) 0 (pz 335 64 96)) (.cons (.ife (.cmp .Is (.var 9 (pz 335 110 115)) (.cst .none 0 (pz 335 119 123)) (pz 335 110 123)) (.var 7 (pz 335 98 106)) (.var 9 (pz 335 129 134)) (pz 335 98 134)) .nil))) (pz 335 21 135)) .nil) (pz 335 8 136)) (pz 335 8 136))
      .nil) ⟨334, 4, 335, 136⟩)
      (.cons (.asg 10 true (pz 336 4 7) (.lst (.cons (.tup (.cons (.cst (.str "value") 0 (pz 336 12 19)) (.cons (.tup (.cons (.cst (.str "builtin") 0 (pz 336 22 31)) (.cons (.cst (.str "end_kind") 0 (pz 336 33 43)) .nil)) 0 (pz 336 21 44)) .nil)) 0 (pz 336 11 45)) (.cons (.tup (.cons (.cst (.str "value") 0 (pz 336 48 55)) (.cons (.tup (.cons (.cst (.str "sym") 0 (pz 336 58 63)) (.cons (.cst (.str "P") 0 (pz 336 65 68)) .nil)) 0 (pz 336 57 69)) .nil)) 0 (pz 336 47 70)) .nil)) (pz 336 10 71)) (pz 336 4 71))
      (.cons (.for_ (.many [(5, (pz 337 8 12)), (11, (pz 337 14 18))] 0 (pz 337 8 18)) .it (.var 4 (pz 337 22 28)) (.dead default) (.cons (.xpr (.meth (.var 10 (pz 338 8 11)) 17 (pz 338 8 18) (.cons (.lst (.cons (.tup (.cons (.cst (.str "value") 0 (pz 338 21 28)) (.cons (.tup (.cons (.cst (.str "sym") 0 (pz 338 31 36)) (.cons (.var 5 (pz 338 38 42)) .nil)) 0 (pz 338 30 43)) .nil)) 0 (pz 338 20 44)) (.cons (.ife (.cmp .Is (.var 11 (pz 338 58 62)) (.cst .none 0 (pz 338 66 70)) (pz 338 58 70)) (.var 7 (pz 338 46 54)) (.call 49 (pz 338 76 84) (.cons (.var 11 (pz 338 85 89)) (.cons (.var 6 (pz 338 91 96)) .nil)) (pz 338 76 97)) (pz 338 46 97)) .nil)) (pz 338 19 98)) .nil) (pz 338 8 99)) (pz 338 8 99))
      .nil) ⟨337, 4, 338, 99⟩)
      (.cons (.ret (.lst (.cons (.call 7 (pz 339 12 16) (.cons (.cst (.str "call") 0 (pz 339 17 23)) (.cons (.var 8 (pz 339 25 30)) .nil)) (pz 339 12 31)) (.cons (.call 7 (pz 339 33 37) (.cons (.cst (.str "call") 0 (pz 339 38 44)) (.cons (.var 10 (pz 339 46 49)) .nil)) (pz 339 33 50)) .nil)) (pz 339 11 51)) (pz 339 4 51))
      .nil))))))))⟩
noncomputable def f_law_put : Fn :=
  ⟨2, [(sz "tree", 1), (sz "table", 2), z0], (.cons (.iff (.cmp .Eq (.sub (.var 0 (pz 341 7 11)) (.cst (.int 0) 0 (pz 341 12 13)) (pz 341 7 14)) (.cst (.str "sym") 0 (pz 341 18 23)) (pz 341 7 23)) (.cons (.ret (.meth (.var 1 (pz 342 15 20)) 2 (pz 342 15 24) (.cons (.sub (.var 0 (pz 342 25 29)) (.cst (.int 1) 0 (pz 342 30 31)) (pz 342 25 32)) (.cons (.var 0 (pz 342 34 38)) .nil)) (pz 342 15 39)) (pz 342 8 39))
      .nil) .nil ⟨341, 4, 342, 39⟩)
      (.cons (.ret (.tup (.cons (.cst (.str "expr") 0 (pz 343 12 18)) (.cons (.sub (.var 0 (pz 343 20 24)) (.cst (.int 1) 0 (pz 343 25 26)) (pz 343 20 27)) (.cons (.bcall .tuple 0 (pz 343 29 34) (.comp (.call 49 (pz 343 36 44) (.cons (.var 2 (pz 343 45 49)) (.cons (.var 1 (pz 343 51 56)) .nil)) (pz 343 36 57)) (.one 2 (pz 343 62 66)) .it (.sub (.var 0 (pz 343 70 74)) (.cst (.int 2) 0 (pz 343 75 76)) (pz 343 70 77)) (.dead default) .nil [z0, (sz "table", 2), (sz "part", 1)] ⟨.function, [(sz ".0", .local), (sz "part", .local), (sz "_law_put", .globalImplicit), (sz "table", .free)], false, false, []⟩ (pz 343 35 78)) (pz 343 29 79)) .nil))) 0 (pz 343 11 80)) (pz 343 4 80))
      .nil))⟩
noncomputable def f_law_told : Fn :=
  ⟨1, [(sz "tree", 1)], (.cons (.try_ (.cons (.ret (.call 51 (pz 346 15 26) (.cons (.var 0 (pz 346 27 31)) (.cons (.call 52 (pz 346 33 39) .nil (pz 346 33 41)) .nil)) (pz 346 15 42)) (pz 346 8 42))
      .nil) 6 (pz 347 11 21) (.cst .none 0 (pz 348 15 19)) (pz 348 8 19) ⟨347, 4, 348, 19⟩ ⟨345, 4, 348, 19⟩)
      .nil)⟩
noncomputable def f_law : Fn :=
  ⟨1, [(sz "script", 1), (sz "bag", 2), (sz "variables", 1), (sz "uppers", 1), (sz "trees", 1), (sz "fields", 1), (sz "is_mutable", 1), (sz "above", 1), (sz "maker", 1), (sz "rows", 1), (sz "fault", 1), (sz "is_wrong", 1), (sz "head", 1), (sz "told", 1), (sz "seen", 1), (sz "worths", 1), (sz "due", 1), z0, z0, z0, z0, z0, z0, z0], (.cons (.asg 1 false (pz 350 4 7) (.call 53 (pz 350 10 18) (.cons (.var 0 (pz 350 19 25)) .nil) (pz 350 10 26)) (pz 350 4 26))
      (.cons (.asg 2 false (pz 351 4 13) (.slc (.lst (.cons (.cst (.str "T") 0 (pz 351 17 20)) (.cons (.cst (.str "S") 0 (pz 351 22 25)) .nil)) (pz 351 16 26)) .nil (.cons (.call 46 (pz 351 28 39) (.cons (.var 1 (pz 351 40 43)) (.cons (.cst (.int 3) 0 (pz 351 45 46)) .nil)) (pz 351 28 47)) .nil) (pz 351 27 47) (pz 351 16 48)) (pz 351 4 48))
      (.cons (.asg 3 false (pz 352 4 10) (.comp (.sub (.lst (.cons (.cst .none 0 (pz 352 15 19)) (.cons (.call 44 (pz 352 21 29) (.cons (.cst (.str "Integer") 0 (pz 352 30 39)) .nil) (pz 352 21 40)) .nil)) (pz 352 14 41)) (.call 46 (pz 352 42 53) (.cons (.var 1 (pz 352 54 57)) (.cons (.cst (.int 2) 0 (pz 352 59 60)) .nil)) (pz 352 42 61)) (pz 352 14 62)) (.one 17 (pz 352 67 71)) .it (.var 2 (pz 352 75 84)) (.dead default) .nil [z0, (sz "bag", 2), z0, z0, z0, z0, z0, z0, z0, z0, z0, z0, z0, z0, z0, z0, z0, (sz "name", 1)] ⟨.function, [(sz ".0", .local), (sz "name", .local), (sz "_law_sym", .globalImplicit), (sz "_law_marble", .globalImplicit), (sz "bag", .free)], false, false, []⟩ (pz 352 13 85)) (pz 352 4 85))
      (.cons (.asg 4 false (pz 353 4 9) (.comp (.ife (.cmp .Is (.var 19 (pz 353 31 36)) (.cst .none 0 (pz 353 40 44)) (pz 353 31 44)) (.call 44 (pz 353 13 21) (.cons (.var 18 (pz 353 22 26)) .nil) (pz 353 13 27)) (.call 7 (pz 353 50 54) (.cons (.cst (.str "<:") 0 (pz 353 55 59)) (.cons (.tup (.cons (.call 44 (pz 353 62 70) (.cons (.var 18 (pz 353 71 75)) .nil) (pz 353 62 76)) (.cons (.var 19 (pz 353 78 83)) .nil)) 0 (pz 353 61 84)) .nil)) (pz 353 50 85)) (pz 353 13 85)) (.many [(18, (pz 353 90 94)), (19, (pz 353 96 101))] 0 (pz 353 90 101)) (.zip 50 (pz 353 105 108) (pz 353 105 127)) (.var 2 (pz 353 109 118)) (.var 3 (pz 353 120 126)) .nil [z0, z0, z0, z0, z0, z0, z0, z0, z0, z0, z0, z0, z0, z0, z0, z0, z0, z0, (sz "name", 1), (sz "upper", 1)] ⟨.function, [(sz ".0", .local), (sz "name", .local), (sz "upper", .local), (sz "_law_sym", .globalImplicit), (sz "expr", .globalImplicit)], false, false, []⟩ (pz 353 12 128)) (pz 353 4 128))
      (.cons (.asg2 5 6 (pz 354 4 10) (pz 354 12 22) 0 (pz 354 4 22) (.call 54 (pz 354 26 37) (.cons (.var 1 (pz 354 38 41)) (.cons (.var 2 (pz 354 43 52)) .nil)) (pz 354 26 53)) (.cmp .Eq (.call 46 (pz 354 55 66) (.cons (.var 1 (pz 354 67 70)) (.cons (.cst (.int 2) 0 (pz 354 72 73)) .nil)) (pz 354 55 74)) (.cst (.int 0) 0 (pz 354 78 79)) (pz 354 55 79)) 0 (pz 354 25 80) (pz 354 4 80))
      (.cons (.asg 7 false (pz 355 4 9) (.sub (.lst (.cons (.cst .none 0 (pz 355 13 17)) (.cons (.call 44 (pz 355 19 27) (.cons (.cst (.str "Shape") 0 (pz 355 28 35)) .nil) (pz 355 19 36)) (.cons (.call 7 (pz 355 38 42) (.cons (.cst (.str "curly") 0 (pz 355 43 50)) (.cons (.tup (.cons (.call 44 (pz 355 53 61) (.cons (.cst (.str "Shape") 0 (pz 355 62 69)) .nil) (pz 355 53 70)) (.cons (.call 44 (pz 355 72 80) (.cons (.cst (.str "T") 0 (pz 355 81 84)) .nil) (pz 355 72 85)) .nil)) 0 (pz 355 52 86)) .nil)) (pz 355 38 87)) .nil))) (pz 355 12 88)) (.call 46 (pz 355 89 100) (.cons (.var 1 (pz 355 101 104)) (.cons (.bin .Add (.cst (.int 2) 0 (pz 355 106 107)) (.bcall .int 43 (pz 355 110 113) (.cmp .NotEq (.var 2 (pz 355 114 123)) (.lst .nil (pz 355 127 129)) (pz 355 114 129)) (pz 355 110 130)) (pz 355 106 130)) .nil)) (pz 355 89 131)) (pz 355 12 132)) (pz 355 4 132))
      (.cons (.asg 8 false (pz 356 4 9) (.ife (.cmp .Eq (.call 46 (pz 356 50 61) (.cons (.var 1 (pz 356 62 65)) (.cons (.cst (.int 3) 0 (pz 356 67 68)) .nil)) (pz 356 50 69)) (.cst (.int 0) 0 (pz 356 73 74)) (pz 356 50 74)) (.call 55 (pz 356 12 22) (.cons (.var 1 (pz 356 23 26)) (.cons (.var 2 (pz 356 28 37)) (.cons (.var 5 (pz 356 39 45)) .nil))) (pz 356 12 46)) (.cst .none 0 (pz 356 80 84)) (pz 356 12 84)) (pz 356 4 84))
      (.cons (.asg 9 true (pz 357 4 8) (.bin .Add (.comp (.call 56 (pz 357 12 27) (.cons (.var 20 (pz 357 28 33)) .nil) (pz 357 12 34)) (.one 20 (pz 357 39 44)) .it (.var 5 (pz 357 48 54)) (.dead default) .nil [z0, z0, z0, z0, z0, z0, z0, z0, z0, z0, z0, z0, z0, z0, z0, z0, z0, z0, z0, z0, (sz "field", 1)] ⟨.function, [(sz ".0", .local), (sz "field", .local), (sz "_law_field_tree", .globalImplicit)], false, false, []⟩ (pz 357 11 55)) (.ife (.cmp .Is (.var 8 (pz 357 65 70)) (.cst .none 0 (pz 357 74 78)) (pz 357 65 78)) (.lst .nil (pz 357 59 61)) (.lst (.cons (.sub (.var 8 (pz 357 85 90)) (.cst (.int 0) 0 (pz 357 91 92)) (pz 357 85 93)) .nil) (pz 357 84 94)) (pz 357 59 94)) (pz 357 11 95)) (pz 357 4 95))
      (.cons (.asg 10 false (pz 358 4 9) (.call 46 (pz 358 12 23) (.cons (.var 1 (pz 358 24 27)) (.cons (.cst (.int 15) 0 (pz 358 29 31)) .nil)) (pz 358 12 32)) (pz 358 4 32))
      (.cons (.iff (.bop .And (.cons (.cmp .Eq (.var 10 (pz 359 7 12)) (.cst (.int 0) 0 (pz 359 16 17)) (pz 359 7 17)) (.cons (.cmp .NotEq (.var 5 (pz 359 22 28)) (.lst .nil (pz 359 32 34)) (pz 359 22 34)) .nil)) (pz 359 7 34)) (.cons (.xpr (.meth (.var 9 (pz 360 8 12)) 7 (pz 360 8 19) (.cons (.call 44 (pz 360 20 28) (.cons (.cst (.str "f0") 0 (pz 360 29 33)) .nil) (pz 360 20 34)) .nil) (pz 360 8 35)) (pz 360 8 35))
      .nil) (.cons (.iff (.cmp .Eq (.var 10 (pz 361 9 14)) (.cst (.int 1) 0 (pz 361 18 19)) (pz 361 9 19)) (.cons (.xpr (.meth (.var 9 (pz 362 8 12)) 7 (pz 362 8 19) (.cons (.call 7 (pz 362 20 24) (.cons (.cst (.str "function") 0 (pz 362 25 35)) (.cons (.tup (.cons (.call 7 (pz 362 38 42) (.cons (.cst (.str "call") 0 (pz 362 43 49)) (.cons (.tup (.cons (.call 44 (pz 362 52 60) (.cons (.cst (.str "Q") 0 (pz 362 61 64)) .nil) (pz 362 52 65)) (.cons (.call 44 (pz 362 67 75) (.cons (.cst (.str "a") 0 (pz 362 76 79)) .nil) (pz 362 67 80)) .nil)) 0 (pz 362 51 81)) .nil)) (pz 362 38 82)) (.cons (.call 44 (pz 362 84 92) (.cons (.cst (.str "a") 0 (pz 362 93 96)) .nil) (pz 362 84 97)) .nil)) 0 (pz 362 37 98)) .nil)) (pz 362 20 99)) .nil) (pz 362 8 100)) (pz 362 8 100))
      .nil) (.cons (.iff (.cmp .Eq (.var 10 (pz 363 9 14)) (.cst (.int 2) 0 (pz 363 18 19)) (pz 363 9 19)) (.cons (.xpr (.meth (.var 9 (pz 364 8 12)) 7 (pz 364 8 19) (.cons (.tup (.cons (.cst (.str "int") 0 (pz 364 21 26)) (.cons (.cst (.int 4) 0 (pz 364 28 29)) .nil)) 0 (pz 364 20 30)) .nil) (pz 364 8 31)) (pz 364 8 31))
      .nil) .nil ⟨363, 4, 364, 31⟩)
      .nil) ⟨361, 4, 364, 31⟩)
      .nil) ⟨359, 4, 364, 31⟩)
      (.cons (.asg 11 false (pz 365 4 12) (.bop .Or (.cons (.bop .And (.cons (.cmp .Eq (.var 10 (pz 365 15 20)) (.cst (.int 0) 0 (pz 365 24 25)) (pz 365 15 25)) (.cons (.cmp .NotEq (.var 5 (pz 365 30 36)) (.lst .nil (pz 365 40 42)) (pz 365 30 42)) .nil)) (pz 365 15 42)) (.cons (.cmp .In (.var 10 (pz 365 46 51)) (.tup (.cons (.cst (.int 1) 0 (pz 365 56 57)) (.cons (.cst (.int 2) 0 (pz 365 59 60)) .nil)) 0 (pz 365 55 61)) (pz 365 46 61)) (.cons (.bop .And (.cons (.cmp .IsNot (.var 8 (pz 365 66 71)) (.cst .none 0 (pz 365 79 83)) (pz 365 66 83)) (.cons (.cmp .Is (.sub (.var 8 (pz 365 88 93)) (.cst (.int 2) 0 (pz 365 94 95)) (pz 365 88 96)) (.cst .none 0 (pz 365 100 104)) (pz 365 88 104)) .nil)) (pz 365 66 104)) .nil))) (pz 365 15 105)) (pz 365 4 105))
      (.cons (.asg 12 false (pz 366 4 8) (.ife (.cmp .NotEq (.var 2 (pz 366 53 62)) (.lst .nil (pz 366 66 68)) (pz 366 53 68)) (.call 7 (pz 366 11 15) (.cons (.cst (.str "curly") 0 (pz 366 16 23)) (.cons (.bin .Add (.lst (.cons (.call 44 (pz 366 26 34) (.cons (.cst (.str "P") 0 (pz 366 35 38)) .nil) (pz 366 26 39)) .nil) (pz 366 25 40)) (.var 4 (pz 366 43 48)) (pz 366 25 48)) .nil)) (pz 366 11 49)) (.call 44 (pz 366 74 82) (.cons (.cst (.str "P") 0 (pz 366 83 86)) .nil) (pz 366 74 87)) (pz 366 11 87)) (pz 366 4 87))
      (.cons (.asg 12 false (pz 367 4 8) (.ife (.cmp .Is (.var 7 (pz 367 19 24)) (.cst .none 0 (pz 367 28 32)) (pz 367 19 32)) (.var 12 (pz 367 11 15)) (.call 7 (pz 367 38 42) (.cons (.cst (.str "<:") 0 (pz 367 43 47)) (.cons (.tup (.cons (.var 12 (pz 367 50 54)) (.cons (.var 7 (pz 367 56 61)) .nil)) 0 (pz 367 49 62)) .nil)) (pz 367 38 63)) (pz 367 11 63)) (pz 367 4 63))
      (.cons (.asg 13 false (pz 368 4 8) (.call 57 (pz 368 11 20) (.cons (.call 7 (pz 368 21 25) (.cons (.cst (.str "struct") 0 (pz 368 26 34)) (.cons (.tup (.cons (.tup (.cons (.cst (.str "bool") 0 (pz 368 38 44)) (.cons (.var 6 (pz 368 46 56)) .nil)) 0 (pz 368 37 57)) (.cons (.var 12 (pz 368 59 63)) (.cons (.call 7 (pz 368 65 69) (.cons (.cst (.str "block") 0 (pz 368 70 77)) (.cons (.var 9 (pz 368 79 83)) .nil)) (pz 368 65 84)) .nil))) 0 (pz 368 36 85)) .nil)) (pz 368 21 86)) .nil) (pz 368 11 87)) (pz 368 4 87))
      (.cons (.iff (.bop .Or (.cons (.cmp .Is (.var 13 (pz 369 7 11)) (.cst .none 0 (pz 369 15 19)) (pz 369 7 19)) (.cons (.var 11 (pz 369 23 31)) .nil)) (pz 369 7 31)) (.cons (.ret (.bop .And (.cons (.cmp .Is (.var 13 (pz 370 15 19)) (.cst .none 0 (pz 370 23 27)) (pz 370 15 27)) (.cons (.var 11 (pz 370 32 40)) .nil)) (pz 370 15 40)) (pz 370 8 40))
      .nil) .nil ⟨369, 4, 370, 40⟩)
      (.cons (.iff (.bop .Or (.cons (.cmp .NotEq (.sub (.var 13 (pz 371 7 11)) (.cst (.int 1) 0 (pz 371 12 13)) (pz 371 7 14)) (.cst (.str "block") 0 (pz 371 18 25)) (pz 371 7 25)) (.cons (.cmp .NotEq (.bcall .list 32 (pz 371 29 33) (.slc (.sub (.var 13 (pz 371 34 38)) (.cst (.int 2) 0 (pz 371 39 40)) (pz 371 34 41)) .nil (.cons (.cst (.int 2) 0 (pz 371 43 44)) .nil) (pz 371 42 44) (pz 371 34 45)) (pz 371 29 46)) (.call 58 (pz 371 50 63) (.cons (.var 6 (pz 371 64 74)) (.cons (.var 7 (pz 371 76 81)) (.cons (.var 2 (pz 371 83 92)) (.cons (.var 3 (pz 371 94 100)) (.cons (.var 5 (pz 371 102 108)) .nil))))) (pz 371 50 109)) (pz 371 29 109)) .nil)) (pz 371 7 109)) (.cons (.ret (.cst (.bool false) 0 (pz 372 15 20)) (pz 372 8 20))
      .nil) .nil ⟨371, 4, 372, 20⟩)
      (.cons (.asg 14 false (pz 373 4 8) (.comp (.call 59 (pz 373 12 21) (.cons (.var 21 (pz 373 22 26)) .nil) (pz 373 12 27)) (.one 21 (pz 373 32 36)) .it (.slc (.sub (.var 13 (pz 373 40 44)) (.cst (.int 2) 0 (pz 373 45 46)) (pz 373 40 47)) (.cons (.cst (.int 2) 0 (pz 373 48 49)) .nil) (.cons (.neg (.cst (.int 1) 0 (pz 373 51 52)) (pz 373 50 52)) .nil) (pz 373 48 52) (pz 373 40 53)) (.dead default) .nil [z0, z0, z0, z0, z0, z0, z0, z0, z0, z0, z0, z0, z0, z0, z0, z0, z0, z0, z0, z0, z0, (sz "tree", 1)] ⟨.function, [(sz ".0", .local), (sz "tree", .local), (sz "_law_seen", .globalImplicit)], false, false, []⟩ (pz 373 11 54)) (pz 373 4 54))
      (.cons (.iff (.cmp .Is (.var 8 (pz 374 7 12)) (.cst .none 0 (pz 374 16 20)) (pz 374 7 20)) (.cons (.ret (.bop .And (.cons (.cmp .Eq (.sub (.sub (.var 13 (pz 375 15 19)) (.cst (.int 2) 0 (pz 375 20 21)) (pz 375 15 22)) (.neg (.cst (.int 1) 0 (pz 375 24 25)) (pz 375 23 25)) (pz 375 15 26)) (.tup (.cons (.cst (.str "nothing") 0 (pz 375 31 40)) .nil) 0 (pz 375 30 42)) (pz 375 15 42)) (.cons (.cmp .Eq (.var 14 (pz 375 47 51)) (.call 60 (pz 375 55 71) (.cons (.var 2 (pz 375 72 81)) (.cons (.var 4 (pz 375 83 88)) (.cons (.var 5 (pz 375 90 96)) .nil))) (pz 375 55 97)) (pz 375 47 97)) .nil)) (pz 375 15 97)) (pz 375 8 97))
      .nil) .nil ⟨374, 4, 375, 97⟩)
      (.cons (.asg 15 false (pz 376 4 10) (.comp (.ife (.cmp .Eq (.sub (.var 22 (pz 376 19 23)) (.cst (.int 0) 0 (pz 376 24 25)) (pz 376 19 26)) (.cst (.str "sym") 0 (pz 376 30 35)) (pz 376 19 35)) (.cst (.int 7) 0 (pz 376 14 15)) (.sub (.var 22 (pz 376 41 45)) (.cst (.int 1) 0 (pz 376 46 47)) (pz 376 41 48)) (pz 376 14 48)) (.one 22 (pz 376 53 57)) .it (.sub (.var 8 (pz 376 61 66)) (.cst (.int 3) 0 (pz 376 67 68)) (pz 376 61 69)) (.dead default) .nil [z0, z0, z0, z0, z0, z0, z0, z0, z0, z0, z0, z0, z0, z0, z0, z0, z0, z0, z0, z0, z0, z0, (sz "part", 1)] ⟨.function, [(sz ".0", .local), (sz "part", .local)], false, false, []⟩ (pz 376 13 70)) (pz 376 4 70))
      (.cons (.asg 16 false (pz 377 4 7) (.tup (.cons (.cst (.str "made") 0 (pz 377 11 17)) (.cons (.sub (.var 8 (pz 377 19 24)) (.cst (.int 2) 0 (pz 377 25 26)) (pz 377 19 27)) (.cons (.var 15 (pz 377 29 35)) .nil))) 0 (pz 377 10 36)) (pz 377 4 36))
      (.cons (.iff (.sub (.var 8 (pz 378 7 12)) (.cst (.int 4) 0 (pz 378 13 14)) (pz 378 7 15)) (.cons (.asg 16 false (pz 379 8 11) (.tup (.cons (.cst (.str "called") 0 (pz 379 15 23)) (.cons (.call 44 (pz 379 25 33) (.cons (.cst (.str "seen") 0 (pz 379 34 40)) .nil) (pz 379 25 41)) (.cons (.lst (.cons (.var 16 (pz 379 44 47)) .nil) (pz 379 43 48)) .nil))) 0 (pz 379 14 49)) (pz 379 8 49))
      .nil) .nil ⟨378, 4, 379, 49⟩)
      (.cons (.ret (.cmp .Eq (.var 14 (pz 380 11 15)) (.lst (.cons (.tup (.cons (.sub (.var 8 (pz 380 21 26)) (.cst (.int 1) 0 (pz 380 27 28)) (pz 380 21 29)) (.cons (.bcall .tuple 0 (pz 380 31 36) (.comp (.call 44 (pz 380 38 46) (.cons (.var 23 (pz 380 47 51)) .nil) (pz 380 38 52)) (.one 23 (pz 380 57 61)) .it (.var 2 (pz 380 65 74)) (.dead default) .nil [z0, z0, z0, z0, z0, z0, z0, z0, z0, z0, z0, z0, z0, z0, z0, z0, z0, z0, z0, z0, z0, z0, z0, (sz "name", 1)] ⟨.function, [(sz ".0", .local), (sz "name", .local), (sz "_law_sym", .globalImplicit)], false, false, []⟩ (pz 380 37 75)) (pz 380 31 76)) (.cons (.lst (.cons (.cst .none 0 (pz 380 79 83)) .nil) (pz 380 78 84)) (.cons (.var 16 (pz 380 86 89)) .nil)))) 0 (pz 380 20 90)) .nil) (pz 380 19 91)) (pz 380 11 91)) (pz 380 4 91))
      .nil))))))))))))))))))))))⟩
noncomputable def fns : List Fn := [f_expr, f_sym, f_is_expr, f_head_of, f_parts_of, f_is_sym, f_Supply_init, f_Supply_next, f_bounds_of, f_built_in, f_kind_tree, f_symbol_tree, f_block, f_put_names, f_put_bounds, f_Variables_init, f_Variables_kind, f_TypeHead_init, f_type_head, f_field_of, f_variable_name, f_Declared_init, f_Declared_put_field, f_Declared_variables, f_Declared_whole, f_kind_of_field, f_typed, f_converted, f_function_tree, f_made, f_default_makers, f_finding_makers, f_names_in, f_kind_made, f_new_turned, f_own_makers, f_begun, f_ended, f_struct_tree, f_law_bag, f_law_marble, f_law_sym, f_law_fields, f_law_field_tree, f_law_maker, f_law_read, f_law_seen, f_law_default_due, f_law_rows_due, f_law_put, f_law_told, f_law]
noncomputable def Fz (W : List Addr) (h : Heap) : Heap := hideAll h W
theorem fz_iff {W : List Addr} {h : Heap} {b : Addr} {o : Obj} : (Fz W h).get? b = some o ↔ h.get? b = some o ∧ b ∉ W := by
  constructor
  · intro e
    refine ⟨of_hideAll W e, fun hb => ?_⟩
    have := hideAll_none W (h := h) hb
    rw [Fz, this] at e; cases e
  · rintro ⟨e, hb⟩
    exact hideAll_get W e hb
noncomputable def Rd (z : Heap) (v : Value) (x : PyData) : Prop := (∃ as, Reads z v x as) ∧ x.canLay0 = true
noncomputable def RdA (z : Heap) (vs : List Value) (xs : List PyData) : Prop := (∃ as, ReadsAll z vs xs as) ∧ PyData.canLayAll0 xs = true
theorem Rd.keeps {z z' : Heap} {v : Value} {x : PyData} (r : Rd z v x) (k : ∀ b o, z.get? b = some o → z'.get? b = some o) : Rd z' v x :=
  let ⟨⟨as, a⟩, b⟩ := r; ⟨⟨as, Reads.keeps k a⟩, b⟩
theorem RdA.keeps {z z' : Heap} {vs : List Value} {xs : List PyData} (r : RdA z vs xs) (k : ∀ b o, z.get? b = some o → z'.get? b = some o) : RdA z' vs xs :=
  let ⟨⟨as, a⟩, b⟩ := r; ⟨⟨as, ReadsAll.keeps k a⟩, b⟩
theorem RdA.nil {z : Heap} : RdA z [] [] := ⟨⟨[], .nil⟩, by simp [PyData.canLayAll0]⟩
theorem RdA.cons {z : Heap} {v : Value} {vs : List Value} {x : PyData} {xs : List PyData} (r : Rd z v x) (s : RdA z vs xs) : RdA z (v :: vs) (x :: xs) :=
  let ⟨⟨as, a⟩, b⟩ := r; let ⟨⟨bs, c⟩, d⟩ := s; ⟨⟨as ++ bs, .cons a c⟩, by simp [PyData.canLayAll0, b, d]⟩
theorem RdA.uncons {z : Heap} {v : Value} {vs : List Value} {x : PyData} {xs : List PyData} (r : RdA z (v :: vs) (x :: xs)) : Rd z v x ∧ RdA z vs xs := by
  obtain ⟨⟨as, a⟩, b⟩ := r
  simp only [PyData.canLayAll0, Bool.and_eq_true] at b
  cases a with
  | cons a1 a2 => exact ⟨⟨⟨_, a1⟩, b.1⟩, ⟨_, a2⟩, b.2⟩
theorem RdA.left_nil {z : Heap} {xs : List PyData} (r : RdA z [] xs) : xs = [] := by
  obtain ⟨⟨as, a⟩, _⟩ := r; cases a; rfl
theorem RdA.right_nil {z : Heap} {vs : List Value} (r : RdA z vs []) : vs = [] := by
  obtain ⟨⟨as, a⟩, _⟩ := r; cases a; rfl
theorem RdA.length {z : Heap} : ∀ {vs : List Value} {xs : List PyData}, RdA z vs xs → vs.length = xs.length
  | [], xs, r => by rw [r.left_nil]; rfl
  | v :: vs, [], r => by have := r.right_nil; cases this
  | v :: vs, x :: xs, r => by rw [List.length_cons, List.length_cons, r.uncons.2.length]
theorem RdA.append {z : Heap} : ∀ {vs : List Value} {xs : List PyData} {ws : List Value} {ys : List PyData}, RdA z vs xs → RdA z ws ys → RdA z (vs ++ ws) (xs ++ ys)
  | [], xs, ws, ys, r, s => by rw [r.left_nil]; exact s
  | v :: vs, [], ws, ys, r, s => by have := r.right_nil; cases this
  | v :: vs, x :: xs, ws, ys, r, s => by
    have := r.uncons
    exact RdA.cons this.1 (this.2.append s)
theorem RdA.one {z : Heap} {v : Value} {x : PyData} (r : Rd z v x) : RdA z [v] [x] := .cons r .nil
theorem RdA.get {z : Heap} : ∀ {vs : List Value} {xs : List PyData}, RdA z vs xs → ∀ {i : Nat} {x : PyData}, xs[i]? = some x → ∃ v, vs[i]? = some v ∧ Rd z v x
  | [], xs, r, i, x, e => by rw [r.left_nil] at e; simp at e
  | v :: vs, [], r, i, x, e => by simp at e
  | v :: vs, y :: xs, r, 0, x, e => by
    simp only [List.getElem?_cons_zero, Option.some.injEq] at e
    subst e
    exact ⟨v, rfl, r.uncons.1⟩
  | v :: vs, y :: xs, r, i + 1, x, e => by
    simp only [List.getElem?_cons_succ] at e ⊢
    exact r.uncons.2.get e
theorem RdA.getV {z : Heap} {vs : List Value} {xs : List PyData} (r : RdA z vs xs) {i : Nat} {v : Value} (e : vs[i]? = some v) : ∃ x, xs[i]? = some x ∧ Rd z v x := by
  have hl := r.length
  have hi : i < xs.length := by rw [← hl]; exact (List.getElem?_eq_some_iff.mp e).1
  obtain ⟨w, hw, q⟩ := r.get (List.getElem?_eq_getElem hi)
  rw [e] at hw; cases hw
  exact ⟨_, List.getElem?_eq_getElem hi, q⟩
theorem RdA.take {z : Heap} : ∀ {vs : List Value} {xs : List PyData} (n : Nat), RdA z vs xs → RdA z (vs.take n) (xs.take n)
  | [], xs, n, r => by rw [r.left_nil]; simpa using RdA.nil
  | v :: vs, [], n, r => by have := r.right_nil; cases this
  | v :: vs, x :: xs, 0, r => RdA.nil
  | v :: vs, x :: xs, n + 1, r => .cons r.uncons.1 (r.uncons.2.take n)
theorem RdA.drop {z : Heap} : ∀ {vs : List Value} {xs : List PyData} (n : Nat), RdA z vs xs → RdA z (vs.drop n) (xs.drop n)
  | [], xs, n, r => by rw [r.left_nil]; simpa using RdA.nil
  | v :: vs, [], n, r => by have := r.right_nil; cases this
  | v :: vs, x :: xs, 0, r => r
  | v :: vs, x :: xs, n + 1, r => r.uncons.2.drop n
theorem rd_none {z : Heap} : Rd z .none .none := ⟨⟨[], .none⟩, rfl⟩
theorem rd_bool {z : Heap} (b : Bool) : Rd z (.bool b) (.bool b) := ⟨⟨[], .bool b⟩, rfl⟩
theorem rd_int {z : Heap} (i : Int) (t : Tok) : Rd z (.int i t) (.int i) := ⟨⟨[], .int i t⟩, rfl⟩
theorem rd_str {z : Heap} {x : Str} (t : Tok) (h : (PyData.str x).canLay0 = true) : Rd z (.str x t) (.str x) := ⟨⟨[], .str x t⟩, h⟩
theorem rd_list {z : Heap} {a : Addr} {o : Obj} {vs : Array Value} {n : Nat} {xs : List PyData} (h1 : z.get? a = some o) (h2 : o.cls = .type "list") (h3 : o.data = .seq vs n) (h4 : RdA z vs.toList xs) :
    Rd z (.ref a) (.list xs) := let ⟨⟨_, r⟩, c⟩ := h4; ⟨⟨_, .list h1 h2 h3 r⟩, by simpa [PyData.canLay0] using c⟩
theorem rd_tuple {z : Heap} {a : Addr} {o : Obj} {vs : Array Value} {n : Nat} {xs : List PyData} (h1 : z.get? a = some o) (h2 : o.cls = .type "tuple") (h3 : o.data = .seq vs n) (h4 : RdA z vs.toList xs) :
    Rd z (.ref a) (.tuple xs) := let ⟨⟨_, r⟩, c⟩ := h4; ⟨⟨_, .tuple h1 h2 h3 r⟩, by simpa [PyData.canLay0] using c⟩
inductive RdSq (z h : Heap) (T : String) (v : Value) (xs : List PyData) : Prop where
  | mk (a : Addr) (o : Obj) (vs : Array Value) (n : Nat) (e : v = .ref a) (h1 : h.get? a = some o) (h2 : o.cls = .type T) (h3 : o.data = .seq vs n) (h4 : RdA z vs.toList xs) : RdSq z h T v xs
theorem Rd.list {z : Heap} {v : Value} {xs : List PyData} (r : Rd z v (.list xs)) : RdSq z z "list" v xs := by
  obtain ⟨⟨as, a⟩, c⟩ := r
  cases a with
  | list h1 h2 h3 h4 => exact ⟨_, _, _, _, rfl, h1, h2, h3, ⟨_, h4⟩, by simpa [PyData.canLay0] using c⟩
theorem Rd.tuple {z : Heap} {v : Value} {xs : List PyData} (r : Rd z v (.tuple xs)) : RdSq z z "tuple" v xs := by
  obtain ⟨⟨as, a⟩, c⟩ := r
  cases a with
  | tuple h1 h2 h3 h4 => exact ⟨_, _, _, _, rfl, h1, h2, h3, ⟨_, h4⟩, by simpa [PyData.canLay0] using c⟩
theorem Rd.none {z : Heap} {v : Value} (r : Rd z v .none) : v = .none := by obtain ⟨⟨_, a⟩, _⟩ := r; cases a; rfl
theorem Rd.bool {z : Heap} {v : Value} {b : Bool} (r : Rd z v (.bool b)) : v = .bool b := by obtain ⟨⟨_, a⟩, _⟩ := r; cases a; rfl
theorem Rd.int {z : Heap} {v : Value} {i : Int} (r : Rd z v (.int i)) : ∃ t, v = .int i t := by obtain ⟨⟨_, a⟩, _⟩ := r; cases a; exact ⟨_, rfl⟩
theorem Rd.str {z : Heap} {v : Value} {x : Str} (r : Rd z v (.str x)) : ∃ t, v = .str x t := by obtain ⟨⟨_, a⟩, _⟩ := r; cases a; exact ⟨_, rfl⟩
inductive DRel (z : Heap) : List (Str × Value) → List (Str × PyData) → Prop
  | nil : DRel z [] []
  | cons {k : Str} {v : Value} {x : PyData} {kv : List (Str × Value)} {kd : List (Str × PyData)} : Rd z v x → DRel z kv kd → DRel z ((k, v) :: kv) ((k, x) :: kd)
theorem DRel.keeps {z z' : Heap} (k : ∀ b o, z.get? b = some o → z'.get? b = some o) : ∀ {kv : List (Str × Value)} {kd : List (Str × PyData)}, DRel z kv kd → DRel z' kv kd
  | _, _, .nil => .nil
  | _, _, .cons r s => .cons (r.keeps k) (s.keeps k)
noncomputable def VR (z : Heap) (αs : List (Addr × Addr)) (v : Value) : V → Prop
  | .d x => Rd z v x
  | .o k => ∃ p, αs[k]? = some p ∧ v = .ref p.1
theorem VR.mono {z z' : Heap} {αs αs' : List (Addr × Addr)} {v : Value} {x : V} (r : VR z αs v x) (k : ∀ b o, z.get? b = some o → z'.get? b = some o) (e : ∃ l, αs' = αs ++ l) : VR z' αs' v x := by
  obtain ⟨l, rfl⟩ := e
  cases x with
  | d x => exact Rd.keeps r k
  | o i =>
    obtain ⟨p, hp, hv⟩ := r
    exact ⟨p, by rw [List.getElem?_append_left (List.getElem?_eq_some_iff.mp hp).1]; exact hp, hv⟩
inductive FRel (z : Heap) (αs : List (Addr × Addr)) (an : Nat → Str) : List DictEntry → List (Nat × V) → Prop
  | nil : FRel z αs an [] []
  | cons {e : DictEntry} {t : Tok} {a : Nat} {v : V} {es : List DictEntry} {fs : List (Nat × V)} : e.key = .str (an a) t → VR z αs e.val v → FRel z αs an es fs → FRel z αs an (e :: es) ((a, v) :: fs)
theorem FRel.mono {z z' : Heap} {αs αs' : List (Addr × Addr)} {an : Nat → Str} (k : ∀ b o, z.get? b = some o → z'.get? b = some o) (e : ∃ l, αs' = αs ++ l) : ∀ {es : List DictEntry} {fs : List (Nat × V)}, FRel z αs an es fs → FRel z' αs' an es fs
  | _, _, .nil => .nil
  | _, _, .cons q r s => .cons q (r.mono k e) (s.mono k e)
structure Cx where
  prog : Program
  w : World
  T : Tab
  K : Frag
  /-- the own classes' places -/
  ca : Nat → Addr
  /-- the defs' places -/
  fa : Nat → Addr
  b₀ : Heap
  A : Around
  frs : List Env
  amb : List Addr
  fs : List Fn
noncomputable def Cell.live : Cell → Bool
  | .lst fz _ => !fz
  | _ => true
noncomputable def adr (p : Addr × Addr) : Cell → List Addr
  | .ins .. => [p.1, p.2]
  | _ => [p.1]
noncomputable def CellR (c : Cx) (h z : Heap) (αs : List (Addr × Addr)) (p : Addr × Addr) : Cell → Prop
  | .lst _ ds => ∃ vs, h.PlainList p.1 vs ∧ RdA z vs.toList ds
  | .dct kvs => ∃ kv, h.DictOf (strKind c.prog c.w) p.1 kv ∧ DRel z kv kvs
  | .ins k fs => (∃ g f, c.T.gk g = .cls k f) ∧ p.1 ≠ p.2 ∧ h.get? p.1 = some (instObj (c.ca k) p.2) ∧ ∃ es n, h.get? p.2 = some { cls := .type "dict", data := .dict es n } ∧ FRel z αs c.T.an es.toList fs ∧ es.size ≤ 100
noncomputable def liveL (αs : List (Addr × Addr)) (σ : Sg) : List Addr := (αs.zip σ).flatMap fun q => if q.2.live then adr q.1 q.2 else []
theorem mem_liveL {αs : List (Addr × Addr)} {σ : Sg} {a : Addr} : a ∈ liveL αs σ ↔ ∃ (k : Nat) (p : Addr × Addr) (cl : Cell), αs[k]? = some p ∧ σ[k]? = some cl ∧ cl.live = true ∧ a ∈ adr p cl := by
  unfold liveL
  rw [List.mem_flatMap]
  constructor
  · rintro ⟨⟨p, cl⟩, hq, ha⟩
    obtain ⟨k, hk⟩ := List.getElem?_of_mem hq
    rw [List.getElem?_zip_eq_some] at hk
    by_cases hl : cl.live = true
    · simp only [hl, if_true] at ha
      exact ⟨k, p, cl, hk.1, hk.2, hl, ha⟩
    · simp only [hl, if_false] at ha; simp at ha
  · rintro ⟨k, p, cl, h1, h2, h3, h4⟩
    refine ⟨(p, cl), List.mem_of_getElem? (i := k) (by rw [List.getElem?_zip_eq_some]; exact ⟨h1, h2⟩), ?_⟩
    simp only [h3, if_true]; exact h4
noncomputable def Wl (c : Cx) (fr : List Addr) (αs : List (Addr × Addr)) (σ : Sg) : List Addr := fr ++ (c.amb ++ liveL αs σ)
theorem mem_Wl {c : Cx} {fr : List Addr} {αs : List (Addr × Addr)} {σ : Sg} {a : Addr} : a ∈ Wl c fr αs σ ↔ a ∈ fr ∨ a ∈ c.amb ∨ ∃ (k : Nat) (p : Addr × Addr) (cl : Cell), αs[k]? = some p ∧ σ[k]? = some cl ∧ cl.live = true ∧ a ∈ adr p cl := by
  unfold Wl
  rw [List.mem_append, List.mem_append, mem_liveL]
structure St (c : Cx) (fr : List Addr) (αs : List (Addr × Addr)) (σ : Sg) (h : Heap) : Prop where
  len : αs.length = σ.length
  cell : ∀ (k : Nat) (p : Addr × Addr) (cl : Cell), αs[k]? = some p → σ[k]? = some cl → CellR c h (Fz (Wl c fr αs σ) h) αs p cl
  ap1 : ∀ (j k : Nat) (p q : Addr × Addr) (cl dl : Cell), j ≠ k → αs[j]? = some p → σ[j]? = some cl → αs[k]? = some q → σ[k]? = some dl → ∀ a ∈ adr p cl, ∀ b ∈ adr q dl, a ≠ b
  ap2 : ∀ (k : Nat) (p : Addr × Addr) (cl : Cell), αs[k]? = some p → σ[k]? = some cl → ∀ a ∈ adr p cl, a ∉ fr ∧ a ∉ c.amb ∧ c.b₀.get? a = none
  ap3 : ∀ a ∈ fr, a ∉ c.amb
  ap4 : ∀ a, a ∈ fr ∨ a ∈ c.amb → c.b₀.get? a = none
  base : ∀ a o, c.b₀.get? a = some o → h.get? a = some o
  ff : h.FunFrames c.b₀ c.frs
  frin : ∀ L ∈ c.frs.filterMap (·.frame), L ∈ fr ∨ L ∈ c.amb
  thr : ∀ a, a ∈ fr ∨ a ∈ c.amb → ∃ o, h.get? a = some o
theorem St.baseF {c : Cx} {fr : List Addr} {αs : List (Addr × Addr)} {σ : Sg} {h : Heap} (S : St c fr αs σ h) : ∀ a o, c.b₀.get? a = some o → (Fz (Wl c fr αs σ) h).get? a = some o := by
  intro a o e
  refine fz_iff.mpr ⟨S.base a o e, fun hm => ?_⟩
  have : c.b₀.get? a = none := by
    rcases mem_Wl.mp hm with q | q | ⟨k, p, cl, h1, h2, _, h4⟩
    · exact S.ap4 a (.inl q)
    · exact S.ap4 a (.inr q)
    · exact (S.ap2 k p cl h1 h2 a h4).2.2
  rw [this] at e; cases e
structure Nx (c : Cx) (fr : List Addr) (αs : List (Addr × Addr)) (σ : Sg) (h : Heap) (αs' : List (Addr × Addr)) (σ' : Sg) (h' : Heap) : Prop where
  fz : ∀ b o, b ∉ Wl c fr αs σ → h.get? b = some o → h'.get? b = some o ∧ b ∉ Wl c fr αs' σ'
  am : ∀ b ∈ c.amb, ∀ o, h.get? b = some o → (∃ sl, h'.get? b = some { o with slots := sl }) ∧ (b ∉ c.frs.filterMap (·.frame) → h'.get? b = some o)
  ext : ∃ l, αs' = αs ++ l
section
variable {c : Cx} {fr : List Addr} {αs αs' αs'' : List (Addr × Addr)} {σ σ' σ'' : Sg} {h h' h'' : Heap}
theorem Nx.refl : Nx c fr αs σ h αs σ h := ⟨fun _ _ a b => ⟨b, a⟩, fun _ _ o e => ⟨⟨o.slots, e⟩, fun _ => e⟩, [], by simp⟩
theorem Nx.trans (x : Nx c fr αs σ h αs' σ' h') (y : Nx c fr αs' σ' h' αs'' σ'' h'') : Nx c fr αs σ h αs'' σ'' h'' := by
  refine ⟨fun b o hb e => ?_, fun b hb o e => ?_, ?_⟩
  · obtain ⟨e1, hb1⟩ := x.fz b o hb e
    exact y.fz b o hb1 e1
  · obtain ⟨⟨sl, e1⟩, k1⟩ := x.am b hb o e
    obtain ⟨⟨sl2, e2⟩, k2⟩ := y.am b hb _ e1
    exact ⟨⟨sl2, e2⟩, fun hn => (y.am b hb o (k1 hn)).2 hn⟩
  · obtain ⟨l, rfl⟩ := x.ext
    obtain ⟨m, rfl⟩ := y.ext
    exact ⟨l ++ m, by rw [List.append_assoc]⟩
theorem Nx.z (x : Nx c fr αs σ h αs' σ' h') : ∀ b o, (Fz (Wl c fr αs σ) h).get? b = some o → (Fz (Wl c fr αs' σ') h').get? b = some o := fun b o e =>
  let ⟨a, b'⟩ := fz_iff.mp e
  fz_iff.mpr (x.fz b o b' a)
theorem Nx.vr (x : Nx c fr αs σ h αs' σ' h') {v : Value} {y : V} (r : VR (Fz (Wl c fr αs σ) h) αs v y) : VR (Fz (Wl c fr αs' σ') h') αs' v y := r.mono x.z x.ext
theorem Nx.rd (x : Nx c fr αs σ h αs' σ' h') {v : Value} {y : PyData} (r : Rd (Fz (Wl c fr αs σ) h) v y) : Rd (Fz (Wl c fr αs' σ') h') v y := r.keeps x.z
theorem Nx.rda (x : Nx c fr αs σ h αs' σ' h') {v : List Value} {y : List PyData} (r : RdA (Fz (Wl c fr αs σ) h) v y) : RdA (Fz (Wl c fr αs' σ') h') v y := r.keeps x.z
end
section
variable {c : Cx} {fr : List Addr} {αs αs' : List (Addr × Addr)} {σ σ' : Sg} {h h' : Heap}
theorem CellR.keep {c : Cx} {h h' z z' : Heap} {αs αs' : List (Addr × Addr)} {p : Addr × Addr} {cl : Cell} (r : CellR c h z αs p cl) (kz : ∀ b o, z.get? b = some o → z'.get? b = some o)
    (ka : ∀ a ∈ adr p cl, ∀ o, h.get? a = some o → h'.get? a = some o) (e : ∃ l, αs' = αs ++ l) : CellR c h' z' αs' p cl := by
  cases cl with
  | lst fz ds =>
    obtain ⟨vs, hv, r⟩ := r
    exact ⟨vs, hv.at fun o q => ka _ (by simp [adr]) o q, r.keeps kz⟩
  | dct kvs =>
    obtain ⟨kv, ⟨o, es, ep, ho, rest⟩, r⟩ := r
    exact ⟨kv, ⟨o, es, ep, ka _ (by simp [adr]) o ho, rest⟩, r.keeps kz⟩
  | ins k fs =>
    obtain ⟨hcl, hn, hi, es, n, hd, r, hz⟩ := r
    exact ⟨hcl, hn, ka _ (by simp [adr]) _ hi, es, n, ka _ (by simp [adr]) _ hd, r.mono kz e, hz⟩
theorem CellR.there {c : Cx} {h z : Heap} {αs : List (Addr × Addr)} {p : Addr × Addr} {cl : Cell} (r : CellR c h z αs p cl) : ∀ a ∈ adr p cl, ∃ o, h.get? a = some o := by
  cases cl with
  | lst fz ds =>
    obtain ⟨vs, ⟨n, hv⟩, r⟩ := r
    intro a ha; simp only [adr, List.mem_singleton] at ha; subst ha; exact ⟨_, hv⟩
  | dct kvs =>
    obtain ⟨kv, ⟨o, es, ep, ho, rest⟩, r⟩ := r
    intro a ha; simp only [adr, List.mem_singleton] at ha; subst ha; exact ⟨_, ho⟩
  | ins k fs =>
    obtain ⟨hcl, hn, hi, es, n, hd, r⟩ := r
    intro a ha; simp only [adr, List.mem_cons, List.not_mem_nil, or_false] at ha
    rcases ha with rfl | rfl
    · exact ⟨_, hi⟩
    · exact ⟨_, hd⟩
theorem ff_of {base h h' : Heap} : ∀ {l : List Env}, h.FunFrames base l → (∀ L ∈ l.filterMap (·.frame), ∃ o, h'.get? L = some o ∧ ∀ vs, o.data ≠ .fields vs) → h'.FunFrames base l
  | [], _, _ => trivial
  | env :: rest, ⟨hk, ⟨L, o, hf, hn, ho, hd⟩, hr⟩, k => by
    obtain ⟨o', h1, h2⟩ := k L (by simp [List.filterMap_cons, hf])
    exact ⟨hk, ⟨L, o', hf, hn, h1, h2⟩, ff_of hr fun M hM => k M (by rw [List.filterMap_cons, hf]; exact List.mem_cons_of_mem _ hM)⟩
theorem Nx.keep (k : ∀ b o, h.get? b = some o → h'.get? b = some o) : Nx c fr αs σ h αs σ h' :=
  ⟨fun _ _ a b => ⟨k _ _ b, a⟩, fun _ _ o e => ⟨⟨o.slots, k _ _ e⟩, fun _ => k _ _ e⟩, [], by simp⟩
theorem St.keep (S : St c fr αs σ h) (k : ∀ b o, h.get? b = some o → h'.get? b = some o) : St c fr αs σ h' where
  len := S.len
  cell := fun i p cl h1 h2 => (S.cell i p cl h1 h2).keep (Nx.keep (c := c) (fr := fr) (αs := αs) (σ := σ) k).z (fun _ _ o e => k _ o e) ⟨[], by simp⟩
  ap1 := S.ap1
  ap2 := S.ap2
  ap3 := S.ap3
  ap4 := S.ap4
  base := fun a o e => k _ _ (S.base a o e)
  ff := ff_of S.ff fun L hL => by
    obtain ⟨_, o, ho, hd⟩ := S.ff.mem hL
    exact ⟨o, k _ _ ho, hd⟩
  frin := S.frin
  thr := fun a ha => let ⟨o, e⟩ := S.thr a ha; ⟨o, k _ _ e⟩
theorem set_get {α : Type} {l : List α} {k j : Nat} {x y : α} (e : (l.set k x)[j]? = some y) : (j = k ∧ y = x ∧ k < l.length) ∨ (j ≠ k ∧ l[j]? = some y) := by
  by_cases q : k = j
  · subst q
    rw [List.getElem?_set_self'] at e
    cases hl : l[k]? with
    | none => rw [hl] at e; simp at e
    | some z =>
      rw [hl] at e
      simp only [Option.map_eq_map, Option.map_some, Option.some.injEq] at e
      exact .inl ⟨rfl, e.symm, (List.getElem?_eq_some_iff.mp hl).1⟩
  · rw [List.getElem?_set_ne q] at e
    exact .inr ⟨fun z => q z.symm, e⟩
theorem get_set_self {α : Type} {l : List α} {k : Nat} {x y : α} (e : l[k]? = some y) : (l.set k x)[k]? = some x := by
  rw [List.getElem?_set_self']; rw [e]; rfl
theorem get_set_ne {α : Type} {l : List α} {k j : Nat} {x y : α} (n : j ≠ k) (e : l[j]? = some y) : (l.set k x)[j]? = some y := by
  rw [List.getElem?_set_ne (Ne.symm n)]; exact e
theorem St.upd_nx (S : St c fr αs σ h) {k : Nat} {p : Addr × Addr} {cl cl' : Cell} (hp : αs[k]? = some p) (hc : σ[k]? = some cl) (hl : cl.live = true) (hl' : cl'.live = true) (ha' : adr p cl' = adr p cl)
    {a : Addr} (ha : a ∈ adr p cl) (kb : ∀ b o, b ≠ a → h.get? b = some o → h'.get? b = some o) : Nx c fr αs σ h αs (σ.set k cl') h' := by
  have haW : a ∈ Wl c fr αs σ := mem_Wl.mpr (.inr (.inr ⟨k, p, cl, hp, hc, hl, ha⟩))
  refine ⟨fun b o hb e => ⟨kb b o (fun q => hb (q ▸ haW)) e, fun hm => hb ?_⟩, fun b hb o e => ?_, [], by simp⟩
  · rcases mem_Wl.mp hm with q | q | ⟨j, q, dl, h1, h2, h3, h4⟩
    · exact mem_Wl.mpr (.inl q)
    · exact mem_Wl.mpr (.inr (.inl q))
    · rcases set_get h2 with ⟨rfl, rfl, _⟩ | ⟨hj, h2⟩
      · rw [hp] at h1; cases h1
        exact mem_Wl.mpr (.inr (.inr ⟨j, p, cl, hp, hc, hl, ha' ▸ h4⟩))
      · exact mem_Wl.mpr (.inr (.inr ⟨j, q, dl, h1, h2, h3, h4⟩))
  · have hn : b ≠ a := fun q => (S.ap2 k p cl hp hc a ha).2.1 (q ▸ hb)
    exact ⟨⟨o.slots, kb b o hn e⟩, fun _ => kb b o hn e⟩
theorem St.upd (S : St c fr αs σ h) {k : Nat} {p : Addr × Addr} {cl cl' : Cell} (hp : αs[k]? = some p) (hc : σ[k]? = some cl) (hl : cl.live = true) (hl' : cl'.live = true) (ha' : adr p cl' = adr p cl)
    {a : Addr} (ha : a ∈ adr p cl) (kb : ∀ b o, b ≠ a → h.get? b = some o → h'.get? b = some o)
    (hr : (∀ b o, (Fz (Wl c fr αs σ) h).get? b = some o → (Fz (Wl c fr αs (σ.set k cl')) h').get? b = some o) → CellR c h' (Fz (Wl c fr αs (σ.set k cl')) h') αs p cl') : St c fr αs (σ.set k cl') h' := by
  have N := S.upd_nx hp hc hl hl' ha' ha kb
  refine ⟨by rw [List.length_set]; exact S.len, fun j q dl h1 h2 => ?_, fun i j q r dl el hn h1 h2 h3 h4 => ?_, fun j q dl h1 h2 => ?_, S.ap3, S.ap4, fun b o e => ?_, ?_, S.frin, fun b hb => ?_⟩
  · rcases set_get h2 with ⟨rfl, rfl, _⟩ | ⟨hj, h2⟩
    · rw [hp] at h1; cases h1
      exact hr N.z
    · exact (S.cell j q dl h1 h2).keep N.z (fun b hb o e => kb b o (S.ap1 j k q p dl cl hj h1 h2 hp hc b hb a ha) e) ⟨[], by simp⟩
  · have back : ∀ {j : Nat} {q : Addr × Addr} {dl : Cell}, αs[j]? = some q → (σ.set k cl')[j]? = some dl → ∃ dl', σ[j]? = some dl' ∧ adr q dl' = adr q dl := by
      intro j q dl h1 h2
      rcases set_get h2 with ⟨rfl, rfl, _⟩ | ⟨hj, h2⟩
      · rw [hp] at h1; cases h1
        exact ⟨cl, hc, ha'.symm⟩
      · exact ⟨dl, h2, rfl⟩
    obtain ⟨d1, e1, f1⟩ := back h1 h2
    obtain ⟨d2, e2, f2⟩ := back h3 h4
    rw [← f1, ← f2]
    exact S.ap1 i j q r d1 d2 hn h1 e1 h3 e2
  · rcases set_get h2 with ⟨rfl, rfl, _⟩ | ⟨hj, h2⟩
    · rw [hp] at h1; cases h1
      rw [ha']; exact S.ap2 j p cl hp hc
    · exact S.ap2 j q dl h1 h2
  · exact kb b o (fun q => by have := (S.ap2 k p cl hp hc a ha).2.2; rw [← q, e] at this; cases this) (S.base b o e)
  · refine ff_of S.ff fun L hL => ?_
    obtain ⟨_, o, ho, hd⟩ := S.ff.mem hL
    have hn : L ≠ a := fun q => by
      have := S.ap2 k p cl hp hc a ha
      rcases S.frin L hL with z | z
      · exact this.1 (q ▸ z)
      · exact this.2.1 (q ▸ z)
    exact ⟨o, kb L o hn ho, hd⟩
  · obtain ⟨o, ho⟩ := S.thr b hb
    have := S.ap2 k p cl hp hc a ha
    exact ⟨o, kb b o (fun q => hb.elim (fun z => this.1 (q ▸ z)) fun z => this.2.1 (q ▸ z)) ho⟩
theorem St.frz_nx {k : Nat} {p : Addr × Addr} {fz : Bool} {ds : List PyData} (hp : αs[k]? = some p) (hc : σ[k]? = some (.lst fz ds)) : Nx c fr αs σ h αs (σ.set k (.lst true ds)) h := by
  refine ⟨fun b o hb e => ⟨e, fun hm => hb ?_⟩, fun b hb o e => ⟨⟨o.slots, e⟩, fun _ => e⟩, [], by simp⟩
  rcases mem_Wl.mp hm with q | q | ⟨j, q, dl, h1, h2, h3, h4⟩
  · exact mem_Wl.mpr (.inl q)
  · exact mem_Wl.mpr (.inr (.inl q))
  · rcases set_get h2 with ⟨rfl, rfl, _⟩ | ⟨hj, h2⟩
    · simp [Cell.live] at h3
    · exact mem_Wl.mpr (.inr (.inr ⟨j, q, dl, h1, h2, h3, h4⟩))
theorem St.frz (S : St c fr αs σ h) {k : Nat} {p : Addr × Addr} {fz : Bool} {ds : List PyData} (hp : αs[k]? = some p) (hc : σ[k]? = some (.lst fz ds)) :
    St c fr αs (σ.set k (.lst true ds)) h ∧ Rd (Fz (Wl c fr αs (σ.set k (.lst true ds))) h) (.ref p.1) (.list ds) := by
  have N := St.frz_nx (c := c) (fr := fr) (h := h) hp hc
  have back : ∀ {j : Nat} {q : Addr × Addr} {dl : Cell}, αs[j]? = some q → (σ.set k (.lst true ds))[j]? = some dl → ∃ dl', σ[j]? = some dl' ∧ adr q dl' = adr q dl ∧ ∀ z, CellR c h z αs q dl' → CellR c h z αs q dl := by
    intro j q dl h1 h2
    rcases set_get h2 with ⟨rfl, rfl, _⟩ | ⟨hj, h2⟩
    · rw [hp] at h1; cases h1
      exact ⟨_, hc, rfl, fun z r => r⟩
    · exact ⟨dl, h2, rfl, fun z r => r⟩
  have S' : St c fr αs (σ.set k (.lst true ds)) h := by
    refine ⟨by rw [List.length_set]; exact S.len, fun j q dl h1 h2 => ?_, fun i j q r dl el hn h1 h2 h3 h4 => ?_, fun j q dl h1 h2 => ?_, S.ap3, S.ap4, S.base, S.ff, S.frin, S.thr⟩
    · obtain ⟨d1, e1, f1, g1⟩ := back h1 h2
      exact g1 _ ((S.cell j q d1 h1 e1).keep N.z (fun b hb o e => e) ⟨[], by simp⟩)
    · obtain ⟨d1, e1, f1, _⟩ := back h1 h2
      obtain ⟨d2, e2, f2, _⟩ := back h3 h4
      rw [← f1, ← f2]
      exact S.ap1 i j q r d1 d2 hn h1 e1 h3 e2
    · obtain ⟨d1, e1, f1, _⟩ := back h1 h2
      rw [← f1]; exact S.ap2 j q d1 h1 e1
  refine ⟨S', ?_⟩
  obtain ⟨vs, ⟨n, hv⟩, r⟩ := S'.cell k p (.lst true ds) hp (get_set_self hc)
  refine rd_list (fz_iff.mpr ⟨hv, fun hm => ?_⟩) rfl rfl r
  have ap := S.ap2 k p _ hp hc p.1 (by simp [adr])
  rcases mem_Wl.mp hm with q | q | ⟨j, q, dl, h1, h2, h3, h4⟩
  · exact ap.1 q
  · exact ap.2.1 q
  · rcases set_get h2 with ⟨rfl, rfl, _⟩ | ⟨hj, h2⟩
    · simp [Cell.live] at h3
    · exact S.ap1 j k q p dl _ hj h1 h2 hp hc _ h4 p.1 (by simp [adr]) rfl
theorem St.new_nx {p : Addr × Addr} {cl : Cell} (hlen : αs.length = σ.length) (hnew : ∀ a ∈ adr p cl, h.get? a = none) (k : ∀ b o, h.get? b = some o → h'.get? b = some o) : Nx c fr αs σ h (αs ++ [p]) (σ ++ [cl]) h' := by
  refine ⟨fun b o hb e => ⟨k _ _ e, fun hm => hb ?_⟩, fun b hb o e => ⟨⟨o.slots, k _ _ e⟩, fun _ => k _ _ e⟩, [p], rfl⟩
  rcases mem_Wl.mp hm with q | q | ⟨j, q, dl, h1, h2, h3, h4⟩
  · exact mem_Wl.mpr (.inl q)
  · exact mem_Wl.mpr (.inr (.inl q))
  · by_cases hj : j < σ.length
    · rw [List.getElem?_append_left hj] at h2
      rw [List.getElem?_append_left (hlen ▸ hj)] at h1
      exact mem_Wl.mpr (.inr (.inr ⟨j, q, dl, h1, h2, h3, h4⟩))
    · have hl := (List.getElem?_eq_some_iff.mp h2).1
      rw [List.length_append, List.length_singleton] at hl
      have : j = σ.length := by omega
      subst this
      rw [List.getElem?_append_right (Nat.le_refl _)] at h2
      rw [List.getElem?_append_right (by omega)] at h1
      simp only [hlen, Nat.sub_self, List.getElem?_cons_zero, Option.some.injEq] at h1 h2
      subst h1 h2
      rw [hnew b h4] at e; cases e
theorem get_snoc {α : Type} {l : List α} {x y : α} {j : Nat} (e : (l ++ [x])[j]? = some y) : (j < l.length ∧ l[j]? = some y) ∨ (j = l.length ∧ y = x) := by
  by_cases hj : j < l.length
  · rw [List.getElem?_append_left hj] at e; exact .inl ⟨hj, e⟩
  · have hl := (List.getElem?_eq_some_iff.mp e).1
    rw [List.length_append, List.length_singleton] at hl
    have : j = l.length := by omega
    subst this
    simp at e
    exact .inr ⟨rfl, e.symm⟩
theorem St.new (S : St c fr αs σ h) {p : Addr × Addr} {cl : Cell} (hnew : ∀ a ∈ adr p cl, h.get? a = none) (hfr : ∀ a ∈ adr p cl, a ∉ fr ∧ a ∉ c.amb) (k : ∀ b o, h.get? b = some o → h'.get? b = some o)
    (hr : (∀ b o, (Fz (Wl c fr αs σ) h).get? b = some o → (Fz (Wl c fr (αs ++ [p]) (σ ++ [cl])) h').get? b = some o) → CellR c h' (Fz (Wl c fr (αs ++ [p]) (σ ++ [cl])) h') (αs ++ [p]) p cl) :
    St c fr (αs ++ [p]) (σ ++ [cl]) h' := by
  have N := St.new_nx (c := c) (fr := fr) S.len hnew k
  have hb : ∀ a ∈ adr p cl, c.b₀.get? a = none := fun a ha => by
    cases q : c.b₀.get? a with
    | none => rfl
    | some o => have := S.base a o q; rw [hnew a ha] at this; cases this
  have old : ∀ (j : Nat) (q : Addr × Addr) (dl : Cell), αs[j]? = some q → σ[j]? = some dl → ∀ a ∈ adr q dl, a ∉ adr p cl := fun j q dl h1 h2 a ha hm => by
    obtain ⟨o, ho⟩ := (S.cell j q dl h1 h2).there a ha
    rw [hnew a hm] at ho; cases ho
  have two : ∀ {j : Nat} {q : Addr × Addr} {dl : Cell}, (αs ++ [p])[j]? = some q → (σ ++ [cl])[j]? = some dl → (αs[j]? = some q ∧ σ[j]? = some dl) ∨ (j = σ.length ∧ q = p ∧ dl = cl) := by
    intro j q dl h1 h2
    rcases get_snoc h1 with ⟨l1, e1⟩ | ⟨l1, e1⟩ <;> rcases get_snoc h2 with ⟨l2, e2⟩ | ⟨l2, e2⟩
    · exact .inl ⟨e1, e2⟩
    · have := S.len; omega
    · have := S.len; omega
    · exact .inr ⟨l2, e1, e2⟩
  refine ⟨by rw [List.length_append, List.length_append, S.len]; rfl, fun j q dl h1 h2 => ?_, fun i j q r dl el hn h1 h2 h3 h4 => ?_, fun j q dl h1 h2 => ?_, S.ap3, S.ap4, fun b o e => k _ _ (S.base b o e), ?_, S.frin, fun b hb => let ⟨o, e⟩ := S.thr b hb; ⟨o, k _ _ e⟩⟩
  · rcases two h1 h2 with ⟨e1, e2⟩ | ⟨_, rfl, rfl⟩
    · exact (S.cell j q dl e1 e2).keep N.z (fun b hb o e => k _ _ e) ⟨[p], rfl⟩
    · exact hr N.z
  · rcases two h1 h2 with ⟨e1, e2⟩ | ⟨z1, rfl, rfl⟩ <;> rcases two h3 h4 with ⟨e3, e4⟩ | ⟨z2, rfl, rfl⟩
    · exact S.ap1 i j q r dl el hn e1 e2 e3 e4
    · intro a ha b hb' e; subst e; exact old i q dl e1 e2 a ha hb'
    · intro a ha b hb' e; subst e; exact old j r el e3 e4 a hb' ha
    · omega
  · rcases two h1 h2 with ⟨e1, e2⟩ | ⟨_, rfl, rfl⟩
    · exact S.ap2 j q dl e1 e2
    · intro a ha; exact ⟨(hfr a ha).1, (hfr a ha).2, hb a ha⟩
  · refine ff_of S.ff fun L hL => ?_
    obtain ⟨_, o, ho, hd⟩ := S.ff.mem hL
    exact ⟨o, k _ _ ho, hd⟩
theorem St.own_nx {a : Addr} (ha : a ∈ fr) (hamb : a ∉ c.amb) (kb : ∀ b o, b ≠ a → h.get? b = some o → h'.get? b = some o) : Nx c fr αs σ h αs σ h' := by
  refine ⟨fun b o hb e => ⟨kb b o (fun q => hb (q ▸ mem_Wl.mpr (.inl ha))) e, hb⟩, fun b hb o e => ?_, [], by simp⟩
  have hn : b ≠ a := fun q => hamb (q ▸ hb)
  exact ⟨⟨o.slots, kb b o hn e⟩, fun _ => kb b o hn e⟩
theorem St.own (S : St c fr αs σ h) {a : Addr} (ha : a ∈ fr) (kb : ∀ b o, b ≠ a → h.get? b = some o → h'.get? b = some o) (hnf : ∃ o, h'.get? a = some o ∧ ∀ vs, o.data ≠ .fields vs) : St c fr αs σ h' := by
  have N := St.own_nx (c := c) (αs := αs) (σ := σ) ha (S.ap3 a ha) kb
  refine ⟨S.len, fun j q dl h1 h2 => ?_, S.ap1, S.ap2, S.ap3, S.ap4, fun b o e => ?_, ?_, S.frin, fun b hb => ?_⟩
  · exact (S.cell j q dl h1 h2).keep N.z (fun b hb o e => kb b o (fun z => (S.ap2 j q dl h1 h2 b hb).1 (z ▸ ha)) e) ⟨[], by simp⟩
  · exact kb b o (fun z => by have := S.ap4 a (.inl ha); rw [← z, e] at this; cases this) (S.base b o e)
  · refine ff_of S.ff fun L hL => ?_
    by_cases q : L = a
    · subst q; exact hnf
    · obtain ⟨_, o, ho, hd⟩ := S.ff.mem hL
      exact ⟨o, kb L o q ho, hd⟩
  · by_cases q : b = a
    · subst q; obtain ⟨o, ho, _⟩ := hnf; exact ⟨o, ho⟩
    · obtain ⟨o, ho⟩ := S.thr b hb
      exact ⟨o, kb b o q ho⟩
end
inductive Fr1 (frs : List Env) (env : Env) : Prop where
  | mk (e₀ : Env) (outer : List Env) (L : Addr) (g1 : frs = e₀ :: outer) (g2 : env.frame = some L) (g3 : e₀.frame = some L) : Fr1 frs env
structure Ek (c : Cx) (tb : List (Str × Nat)) (env : Env) (fr : List Addr) : Prop where
  kind : env.scope.kind = .function
  glob : env.globals = mainGlobals
  blt : env.builtins = builtinsNs
  frame : Fr1 c.frs env
  loc : ∀ (i : Nat) (nm : Str), tb[i]? = some (nm, 1) → env.kindOf nm = some .local
  cel : ∀ (i : Nat) (nm : Str), tb[i]? = some (nm, 2) → env.kindOf nm = some .cell
  inj : ∀ (i j : Nat) (nm : Str) (k k' : Nat), tb[i]? = some (nm, k) → tb[j]? = some (nm, k') → k ≠ 0 → k' ≠ 0 → i = j
  locIn : env.locals ∈ fr ∨ env.locals ∈ c.amb
  celIn : ∀ (nm : Str) (a : Addr), env.cells.lookup nm = some a → (a ∈ fr ∨ a ∈ c.amb) ∧ a ≠ env.locals
  celInj : ∀ (n m : Str) (a : Addr), env.cells.lookup n = some a → env.cells.lookup m = some a → n = m
structure Fv (tb : List (Str × Nat)) (env : Env) (vs : Vs) (αs : List (Addr × Addr)) (h z : Heap) : Prop where
  loc : ∃ m, h.Ns env.locals m ∧ ∀ (i : Nat) (nm : Str) (V : V), tb[i]? = some (nm, 1) → getV vs i = some V → ∃ v, m nm = some v ∧ VR z αs v V
  cel : ∀ (i : Nat) (nm : Str), tb[i]? = some (nm, 2) → ∃ a ov, env.cells.lookup nm = some a ∧ h.IsCell a ov ∧ ∀ V, getV vs i = some V → ∃ v, ov = some v ∧ VR z αs v V
structure Inv (c : Cx) (fr : List Addr) (tb : List (Str × Nat)) (env : Env) (vs : Vs) (αs : List (Addr × Addr)) (σ : Sg) (h : Heap) : Prop where
  st : St c fr αs σ h
  ek : Ek c tb env fr
  fv : Fv tb env vs αs h (Fz (Wl c fr αs σ) h)
section
variable {c : Cx} {fr : List Addr} {tb : List (Str × Nat)} {env : Env} {vs : Vs} {αs αs' : List (Addr × Addr)} {σ σ' : Sg} {h h' : Heap}
theorem Ns_slots {a : Addr} {m : Str → Option Value} (n : h.Ns a m) (k : ∀ o, h.get? a = some o → ∃ sl, h'.get? a = some { o with slots := sl }) : h'.Ns a m := by
  obtain ⟨o, es, ep, ho, hd, r⟩ := n
  obtain ⟨sl, e⟩ := k o ho
  exact ⟨_, es, ep, e, hd, r⟩
theorem IsCell_slots {a : Addr} {v : Option Value} (n : h.IsCell a v) (k : ∀ o, h.get? a = some o → ∃ sl, h'.get? a = some { o with slots := sl }) : h'.IsCell a v := by
  obtain ⟨o, ho, hd⟩ := n
  obtain ⟨sl, e⟩ := k o ho
  exact ⟨_, e, hd⟩
theorem Fv.step (K : Ek c tb env fr) (V : Fv tb env vs αs h (Fz (Wl c fr αs σ) h)) (N : Nx c fr αs σ h αs' σ' h') (kf : ∀ a ∈ fr, ∀ o, h.get? a = some o → ∃ sl, h'.get? a = some { o with slots := sl }) :
    Fv tb env vs αs' h' (Fz (Wl c fr αs' σ') h') := by
  obtain ⟨⟨m, hn, hm⟩, hc⟩ := V
  refine ⟨⟨m, Ns_slots hn (K.locIn.elim (kf _) fun q o ho => (N.am _ q o ho).1), fun i nm V e g => ?_⟩, fun i nm e => ?_⟩
  · obtain ⟨v, e1, e2⟩ := hm i nm V e g
    exact ⟨v, e1, N.vr e2⟩
  · obtain ⟨a, ov, e1, e2, e3⟩ := hc i nm e
    refine ⟨a, ov, e1, IsCell_slots e2 ?_, fun V g => ?_⟩
    · rcases (K.celIn nm a e1).1 with q | q
      · exact kf a q
      · exact fun o ho => (N.am a q o ho).1
    · obtain ⟨v, e4, e5⟩ := e3 V g
      exact ⟨v, e4, N.vr e5⟩
theorem Inv.keep (I : Inv c fr tb env vs αs σ h) (k : ∀ b o, h.get? b = some o → h'.get? b = some o) : Inv c fr tb env vs αs σ h' :=
  ⟨I.st.keep k, I.ek, I.fv.step I.ek (Nx.keep k) fun a _ o e => ⟨o.slots, k a o e⟩⟩
theorem Inv.upd (I : Inv c fr tb env vs αs σ h) {k : Nat} {p : Addr × Addr} {cl cl' : Cell} (hp : αs[k]? = some p) (hc : σ[k]? = some cl) (hl : cl.live = true) (hl' : cl'.live = true) (ha' : adr p cl' = adr p cl)
    {a : Addr} (ha : a ∈ adr p cl) (kb : ∀ b o, b ≠ a → h.get? b = some o → h'.get? b = some o)
    (hr : (∀ b o, (Fz (Wl c fr αs σ) h).get? b = some o → (Fz (Wl c fr αs (σ.set k cl')) h').get? b = some o) → CellR c h' (Fz (Wl c fr αs (σ.set k cl')) h') αs p cl') : Inv c fr tb env vs αs (σ.set k cl') h' :=
  ⟨I.st.upd hp hc hl hl' ha' ha kb hr, I.ek, I.fv.step I.ek (I.st.upd_nx hp hc hl hl' ha' ha kb) fun b hb o e => ⟨o.slots, kb b o (fun q => (I.st.ap2 k p cl hp hc a ha).1 (q ▸ hb)) e⟩⟩
theorem Inv.frz (I : Inv c fr tb env vs αs σ h) {k : Nat} {p : Addr × Addr} {fz : Bool} {ds : List PyData} (hp : αs[k]? = some p) (hc : σ[k]? = some (.lst fz ds)) : Inv c fr tb env vs αs (σ.set k (.lst true ds)) h :=
  ⟨(I.st.frz hp hc).1, I.ek, I.fv.step I.ek (St.frz_nx hp hc) fun _ _ o e => ⟨o.slots, e⟩⟩
theorem Inv.new (I : Inv c fr tb env vs αs σ h) {p : Addr × Addr} {cl : Cell} (hnew : ∀ a ∈ adr p cl, h.get? a = none) (hfr : ∀ a ∈ adr p cl, a ∉ fr ∧ a ∉ c.amb) (k : ∀ b o, h.get? b = some o → h'.get? b = some o)
    (hr : (∀ b o, (Fz (Wl c fr αs σ) h).get? b = some o → (Fz (Wl c fr (αs ++ [p]) (σ ++ [cl])) h').get? b = some o) → CellR c h' (Fz (Wl c fr (αs ++ [p]) (σ ++ [cl])) h') (αs ++ [p]) p cl) :
    Inv c fr tb env vs (αs ++ [p]) (σ ++ [cl]) h' :=
  ⟨I.st.new hnew hfr k hr, I.ek, I.fv.step I.ek (St.new_nx I.st.len hnew k) fun a _ o e => ⟨o.slots, k a o e⟩⟩
end
noncomputable def Un (c : Cx) (W : List Addr) (h : Heap) (e : Addr) : Prop := ∀ o, h.get? e = some o → e ∈ W ∧ e ∉ c.amb
inductive ExTr (U : Addr → Prop) (b₀ : Heap) (e : Addr) (h' : Heap) (vs : Array Value) : Prop where
  | mk (T : Addr) (oT : Obj) (ts : Array Value) (a1 : vs[1]? = some (.ref T)) (a2 : T ≠ e) (a3 : h'.get? T = some oT) (a4 : oT.data = .fields ts) (a5 : 3 < ts.size) (a6 : U T) (a7 : b₀.get? T = none) : ExTr U b₀ e h' vs
inductive ExAt (U : Addr → Prop) (b₀ : Heap) (lf : Addr) (noted : Bool) (e : Addr) (h' : Heap) : Prop where
  | mk (oe : Obj) (vs : Array Value) (h1 : h'.get? e = some oe) (h2 : oe.cls = .ref lf) (h3 : oe.data = .fields vs) (h4 : 1 < vs.size)
    (h5 : (noted = false ∧ vs[1]? = some .none) ∨ ExTr U b₀ e h' vs) : ExAt U b₀ lf noted e h'
structure Exn (c : Cx) (lf : Addr) (W : List Addr) (h : Heap) (noted : Bool) (e : Addr) (h' : Heap) : Prop where
  fz : ∀ b o, b ∉ W → h.get? b = some o → h'.get? b = some o
  am : ∀ b ∈ c.amb, ∀ o, h.get? b = some o → (∃ sl, h'.get? b = some { o with slots := sl }) ∧ (b ∉ c.frs.filterMap (·.frame) → h'.get? b = some o)
  ff : h'.FunFrames c.b₀ c.frs
  un : Un c W h e
  base : c.b₀.get? e = none
  ex : ExAt (Un c W h) c.b₀ lf noted e h'
section
variable {c : Cx} {lf : Addr} {fr : List Addr} {αs αs' : List (Addr × Addr)} {σ σ' : Sg} {h h' h'' : Heap} {nt : Bool} {e : Addr}
theorem Un.before (N : Nx c fr αs σ h αs' σ' h') (u : Un c (Wl c fr αs' σ') h' e) : Un c (Wl c fr αs σ) h e := by
  intro o ho
  by_cases hw : e ∈ Wl c fr αs σ
  · refine ⟨hw, fun ha => ?_⟩
    obtain ⟨⟨sl, e1⟩, _⟩ := N.am e ha o ho
    exact (u _ e1).2 ha
  · obtain ⟨e1, e2⟩ := N.fz e o hw ho
    exact absurd (u _ e1).1 e2
theorem Exn.before (N : Nx c fr αs σ h αs' σ' h') (x : Exn c lf (Wl c fr αs' σ') h' nt e h'') : Exn c lf (Wl c fr αs σ) h nt e h'' := by
  refine ⟨fun b o hb q => ?_, fun b hb o q => ?_, x.ff, x.un.before N, x.base, ?_⟩
  · obtain ⟨e1, e2⟩ := N.fz b o hb q
    exact x.fz b o e2 e1
  · obtain ⟨⟨sl, e1⟩, k1⟩ := N.am b hb o q
    obtain ⟨⟨sl2, e2⟩, k2⟩ := x.am b hb _ e1
    exact ⟨⟨sl2, e2⟩, fun hn => (x.am b hb o (k1 hn)).2 hn⟩
  · obtain ⟨oe, vs, h1, h2, h3, h4, h5⟩ := x.ex
    refine ⟨oe, vs, h1, h2, h3, h4, ?_⟩
    rcases h5 with h5 | ⟨T, oT, ts, a1, a2, a3, a4, a5, a6, a7⟩
    · exact .inl h5
    · exact .inr ⟨T, oT, ts, a1, a2, a3, a4, a5, a6.before N, a7⟩
end
structure Rm (n : Nat) (A : Around) : Prop where
  hd : A.handled = none
  gu : A.guards = some []
  dp : A.depth + 4 * n + 4 ≤ 900
  un : A.units + 40 * n + 400 ≤ 5000
noncomputable def Ends (c : Cx) (lf : Addr) (fr : List Addr) (αs : List (Addr × Addr)) (σ : Sg) (s : Shared) (Pre : List (Addr × Addr) → Sg → Heap → Prop) (r : Out V) (Q : Value → Shared → Prop) (E : Value → Shared → Prop) : Prop :=
  (∀ V σ', r = .ok V σ' → ∀ v αs' h' tk, Pre αs' σ' h' → Nx c fr αs σ s.heap αs' σ' h' → VR (Fz (Wl c fr αs' σ') h') αs' v V → Q v { s with heap := h', toks := tk }) ∧
  (r = .ex → ∀ nt e h' tk, Exn c lf (Wl c fr αs σ) s.heap nt e h' → E (.ref e) { s with heap := h', toks := tk })
noncomputable def XL.len : XL → Nat
  | .nil => 0
  | .cons _ r => r.len + 1
noncomputable def okG (T : Tab) (sc : Scope) (g : Nat) : Bool := decide (sc.names.lookup (T.gn g) = some .globalImplicit) && T.gn g != ("__debug__" : Str)
noncomputable def bname : BOp → Str
  | .tuple => "tuple"
  | .list => "list"
  | .dict => "dict"
  | .str => "str"
  | .int => "int"
  | .len => "len"
noncomputable def okVar (tb : List (Str × Nat)) (i : Nat) : Bool := match tb[i]? with
  | some (nm, k) => (k == 1 || k == 2) && nm != ("__debug__" : Str)
  | none => false
noncomputable def okTg (tb : List (Str × Nat)) : Tg → Bool
  | .one i _ => decide ((tb[i]?).map (·.2) = some 1) || decide ((tb[i]?).map (·.2) = some 2)
  | .many is _ _ => is.all fun q => decide ((tb[q.1]?).map (·.2) = some 1) || decide ((tb[q.1]?).map (·.2) = some 2)
noncomputable def tgSlots : Tg → List Nat
  | .one i _ => [i]
  | .many is _ _ => is.map (·.1)
noncomputable def okTb (sc : Scope) (tb tb' : List (Str × Nat)) : Bool :=
  decide (sc.kind = .function) && sc.names.all (fun x => decide (x.2 ≠ .cell)) && sc.names.all (fun x => decide (x.2 = .local → sc.names.lookup x.1 = some .local)) &&
  sc.names.all (fun x => decide (x.2 = .free → sc.names.lookup x.1 = some .free ∧ x.1 ∈ (tb.filter fun q => q.2 == 2).map (·.1))) &&
  (List.range tb'.length).all fun i => match tb'[i]? with
    | some (nm, k) => k == 0 || (k == 1 && decide (sc.names.lookup nm = some .local)) || (k == 2 && decide (sc.names.lookup nm = some .free) && decide (tb[i]? = some (nm, 2)))
    | none => true
noncomputable def nodupTb (tb : List (Str × Nat)) : Bool := decide ((tb.filter fun q => q.2 != 0).map (·.1)).Nodup
noncomputable def okBase (T : Tab) : X → Bool
  | .call g .. => T.gn g != ("super" : Str)
  | .bcall _ g .. => T.gn g != ("super" : Str)
  | .dead _ => false
  | _ => true
noncomputable def skOk (T : Tab) (sc : Scope) : SK → Bool
  | .it => true
  | .rng g _ _ => okG T sc g && T.gn g == ("range" : Str)
  | .enm g _ _ => okG T sc g && T.gn g == ("enumerate" : Str)
  | .zip g _ _ => okG T sc g && T.gn g == ("zip" : Str)
noncomputable def akName (ak : AK) (nm : Str) : Bool := match ak with
  | .append => nm == ("append" : Str)
  | .extend => nm == ("extend" : Str)
  | .pop => nm == ("pop" : Str)
  | .get => nm == ("get" : Str)
  | .split => nm == ("split" : Str)
  | .count => nm == ("count" : Str)
  | .own .. => nm != ("" : Str)
  | .plain => false
noncomputable def isFC : GK → Bool
  | .fn .. => true
  | .cls .. => true
  | _ => false
noncomputable def isDict : BOp → Bool
  | .dict => true
  | _ => false
noncomputable def isComp : X → Bool
  | .comp .. => true
  | _ => false
noncomputable def isZip : SK → Bool
  | .zip .. => true
  | _ => false
noncomputable def pairSk : SK → Bool
  | .enm .. => true
  | .zip .. => true
  | _ => false
noncomputable def manyTg : Tg → Bool
  | .many .. => true
  | _ => false
mutual
noncomputable def okX (T : Tab) (sc : Scope) (tb : List (Str × Nat)) : X → Bool
  | .cst c _ _ => match c with | .str x => (PyData.str x).canLay0 | _ => true
  | .var i _ => okVar tb i
  | .glb g _ => okG T sc g
  | .tup xs _ _ => okL T sc tb xs && decide (xs.len ≤ 1000)
  | .lst xs _ => okL T sc tb xs && decide (xs.len ≤ 1000)
  | .dsp ks vs _ => (keysOf ks).isSome && ks.len == vs.len && okL T sc tb vs && decide (vs.len ≤ 10)
  | .call g _ xs _ => okG T sc g && okL T sc tb xs && isFC (T.gk g)
  | .bcall b g _ x _ => okG T sc g && T.gn g == bname b && okX T sc tb x && (!isDict b || isComp x)
  | .meth e a pa xs p => okX T sc tb e && okBase T e && okL T sc tb xs && decide (xs.len ≤ 10) && pa.endLine == p.line && akName (T.ak a) (T.an a)
  | .attr e a _ => okX T sc tb e && okBase T e && T.an a != ("" : Str)
  | .sub e i _ => okX T sc tb e && okX T sc tb i
  | .slc e lo hi _ _ => okX T sc tb e && okL T sc tb lo && okL T sc tb hi
  | .cmp _ a b _ => okX T sc tb a && okX T sc tb b
  | .chn .. => true
  | .bop _ xs _ => okL T sc tb xs
  | .bnot e _ => okX T sc tb e
  | .ife t a b _ => okX T sc tb t && okX T sc tb a && okX T sc tb b
  | .bin _ a b _ => okX T sc tb a && okX T sc tb b
  | .neg e _ => okX T sc tb e
  | .comp elt tg sk x y ifs tb' sc' _ => okX T sc tb x && (!isZip sk || okX T sc tb y) && skOk T sc sk && (!pairSk sk || manyTg tg) && okTb sc' tb tb' && nodupTb tb' && okX T sc' tb' elt && okL T sc' tb' ifs && (tgSlots tg).all (fun i => decide ((tb'[i]?).map (·.2) = some 1)) && (List.range tb'.length).all (fun i => !decide ((tb'[i]?).map (·.2) = some 1) || (tgSlots tg).contains i)
  | .dead _ => false
noncomputable def okL (T : Tab) (sc : Scope) (tb : List (Str × Nat)) : XL → Bool
  | .nil => true
  | .cons x xs => okX T sc tb x && okL T sc tb xs
end
noncomputable def okSlot (tb : List (Str × Nat)) (i : Nat) : Bool := decide ((tb[i]?).map (·.2) = some 1) || decide ((tb[i]?).map (·.2) = some 2)
noncomputable def isTup : X → Bool
  | .tup .. => true
  | _ => false
mutual
noncomputable def okS (T : Tab) (sc : Scope) (tb : List (Str × Nat)) : S → Bool
  | .asg i _ _ x _ => okX T sc tb x && okSlot tb i
  | .asg2 i j _ _ _ _ x y _ _ _ => okX T sc tb x && okX T sc tb y && okSlot tb i && okSlot tb j && i != j && !(constantsAlone 8 (xE T tb x) && constantsAlone 8 (xE T tb y))
  | .unp is _ _ x _ => okX T sc tb x && !isTup x && is.all fun q => okSlot tb q.1
  | .sat e a _ _ x _ => okX T sc tb e && okX T sc tb x && T.an a != ("" : Str)
  | .sit e i _ x _ => okX T sc tb e && okX T sc tb i && okX T sc tb x
  | .xpr x _ => okX T sc tb x && !isComp x
  | .iff t a b _ => okX T sc tb t && okSL T sc tb a && okSL T sc tb b
  | .whl t a _ => okX T sc tb t && okSL T sc tb a
  | .for_ tg sk x y a _ => okX T sc tb x && (!isZip sk || okX T sc tb y) && skOk T sc sk && (!pairSk sk || manyTg tg) && (tgSlots tg).all (okSlot tb) && okSL T sc tb a
  | .ret x _ => okX T sc tb x
  | .raise g _ x _ _ => okG T sc g && T.gn g == ("LowerFault" : Str) && okX T sc tb x
  | .try_ a g _ x _ _ _ => okSL T sc tb a && okG T sc g && T.gn g == ("LowerFault" : Str) && okX T sc tb x
  | .dead _ => false
noncomputable def okSL (T : Tab) (sc : Scope) (tb : List (Str × Nat)) : SL → Bool
  | .nil => true
  | .cons s r => okS T sc tb s && okSL T sc tb r
end
theorem q_okX_0 (T : Tab) (sc : Scope) (tb : List (Str × Nat)) c z1 z2 : okX T sc tb (.cst c z1 z2) = (match c with | .str x => (PyData.str x).canLay0 | _ => true) := rfl
theorem q_okX_1 (T : Tab) (sc : Scope) (tb : List (Str × Nat)) i z1 : okX T sc tb (.var i z1) = (okVar tb i) := rfl
theorem q_okX_2 (T : Tab) (sc : Scope) (tb : List (Str × Nat)) g z1 : okX T sc tb (.glb g z1) = (okG T sc g) := rfl
theorem q_okX_3 (T : Tab) (sc : Scope) (tb : List (Str × Nat)) xs z1 z2 : okX T sc tb (.tup xs z1 z2) = (okL T sc tb xs && decide (xs.len ≤ 1000)) := rfl
theorem q_okX_4 (T : Tab) (sc : Scope) (tb : List (Str × Nat)) xs z1 : okX T sc tb (.lst xs z1) = (okL T sc tb xs && decide (xs.len ≤ 1000)) := rfl
theorem q_okX_5 (T : Tab) (sc : Scope) (tb : List (Str × Nat)) ks vs z1 : okX T sc tb (.dsp ks vs z1) = ((keysOf ks).isSome && ks.len == vs.len && okL T sc tb vs && decide (vs.len ≤ 10)) := rfl
theorem q_okX_6 (T : Tab) (sc : Scope) (tb : List (Str × Nat)) g z1 xs z2 : okX T sc tb (.call g z1 xs z2) = (okG T sc g && okL T sc tb xs && isFC (T.gk g)) := rfl
theorem q_okX_7 (T : Tab) (sc : Scope) (tb : List (Str × Nat)) b g z1 x z2 : okX T sc tb (.bcall b g z1 x z2) = (okG T sc g && T.gn g == bname b && okX T sc tb x && (!isDict b || isComp x)) := rfl
theorem q_okX_8 (T : Tab) (sc : Scope) (tb : List (Str × Nat)) e a pa xs p : okX T sc tb (.meth e a pa xs p) = (okX T sc tb e && okBase T e && okL T sc tb xs && decide (xs.len ≤ 10) && pa.endLine == p.line && akName (T.ak a) (T.an a)) := rfl
theorem q_okX_9 (T : Tab) (sc : Scope) (tb : List (Str × Nat)) e a z1 : okX T sc tb (.attr e a z1) = (okX T sc tb e && okBase T e && T.an a != ("" : Str)) := rfl
theorem q_okX_10 (T : Tab) (sc : Scope) (tb : List (Str × Nat)) e i z1 : okX T sc tb (.sub e i z1) = (okX T sc tb e && okX T sc tb i) := rfl
theorem q_okX_11 (T : Tab) (sc : Scope) (tb : List (Str × Nat)) e lo hi z1 z2 : okX T sc tb (.slc e lo hi z1 z2) = (okX T sc tb e && okL T sc tb lo && okL T sc tb hi) := rfl
theorem q_okX_12 (T : Tab) (sc : Scope) (tb : List (Str × Nat)) z1 a b z2 : okX T sc tb (.cmp z1 a b z2) = (okX T sc tb a && okX T sc tb b) := rfl
theorem q_okX_13 (T : Tab) (sc : Scope) (tb : List (Str × Nat)) z1 z2 z3 z4 : okX T sc tb (.chn z1 z2 z3 z4) = (true) := rfl
theorem q_okX_14 (T : Tab) (sc : Scope) (tb : List (Str × Nat)) z1 xs z2 : okX T sc tb (.bop z1 xs z2) = (okL T sc tb xs) := rfl
theorem q_okX_15 (T : Tab) (sc : Scope) (tb : List (Str × Nat)) e z1 : okX T sc tb (.bnot e z1) = (okX T sc tb e) := rfl
theorem q_okX_16 (T : Tab) (sc : Scope) (tb : List (Str × Nat)) t a b z1 : okX T sc tb (.ife t a b z1) = (okX T sc tb t && okX T sc tb a && okX T sc tb b) := rfl
theorem q_okX_17 (T : Tab) (sc : Scope) (tb : List (Str × Nat)) z1 a b z2 : okX T sc tb (.bin z1 a b z2) = (okX T sc tb a && okX T sc tb b) := rfl
theorem q_okX_18 (T : Tab) (sc : Scope) (tb : List (Str × Nat)) e z1 : okX T sc tb (.neg e z1) = (okX T sc tb e) := rfl
theorem q_okX_19 (T : Tab) (sc : Scope) (tb : List (Str × Nat)) elt tg sk x y ifs tb' sc' z1 : okX T sc tb (.comp elt tg sk x y ifs tb' sc' z1) = (okX T sc tb x && (!isZip sk || okX T sc tb y) && skOk T sc sk && (!pairSk sk || manyTg tg) && okTb sc' tb tb' && nodupTb tb' && okX T sc' tb' elt && okL T sc' tb' ifs && (tgSlots tg).all (fun i => decide ((tb'[i]?).map (·.2) = some 1)) && (List.range tb'.length).all (fun i => !decide ((tb'[i]?).map (·.2) = some 1) || (tgSlots tg).contains i)) := rfl
theorem q_okX_20 (T : Tab) (sc : Scope) (tb : List (Str × Nat)) z1 : okX T sc tb (.dead z1) = (false) := rfl
theorem q_okL_0 (T : Tab) (sc : Scope) (tb : List (Str × Nat)) : okL T sc tb .nil = (true) := rfl
theorem q_okL_1 (T : Tab) (sc : Scope) (tb : List (Str × Nat)) x xs : okL T sc tb (.cons x xs) = (okX T sc tb x && okL T sc tb xs) := rfl
theorem q_okS_0 (T : Tab) (sc : Scope) (tb : List (Str × Nat)) i z1 z2 x z3 : okS T sc tb (.asg i z1 z2 x z3) = (okX T sc tb x && okSlot tb i) := rfl
theorem q_okS_1 (T : Tab) (sc : Scope) (tb : List (Str × Nat)) i j z1 z2 z3 z4 x y z5 z6 z7 : okS T sc tb (.asg2 i j z1 z2 z3 z4 x y z5 z6 z7) = (okX T sc tb x && okX T sc tb y && okSlot tb i && okSlot tb j && i != j && !(constantsAlone 8 (xE T tb x) && constantsAlone 8 (xE T tb y))) := rfl
theorem q_okS_2 (T : Tab) (sc : Scope) (tb : List (Str × Nat)) is z1 z2 x z3 : okS T sc tb (.unp is z1 z2 x z3) = (okX T sc tb x && !isTup x && is.all fun q => okSlot tb q.1) := rfl
theorem q_okS_3 (T : Tab) (sc : Scope) (tb : List (Str × Nat)) e a z1 z2 x z3 : okS T sc tb (.sat e a z1 z2 x z3) = (okX T sc tb e && okX T sc tb x && T.an a != ("" : Str)) := rfl
theorem q_okS_4 (T : Tab) (sc : Scope) (tb : List (Str × Nat)) e i z1 x z2 : okS T sc tb (.sit e i z1 x z2) = (okX T sc tb e && okX T sc tb i && okX T sc tb x) := rfl
theorem q_okS_5 (T : Tab) (sc : Scope) (tb : List (Str × Nat)) x z1 : okS T sc tb (.xpr x z1) = (okX T sc tb x && !isComp x) := rfl
theorem q_okS_6 (T : Tab) (sc : Scope) (tb : List (Str × Nat)) t a b z1 : okS T sc tb (.iff t a b z1) = (okX T sc tb t && okSL T sc tb a && okSL T sc tb b) := rfl
theorem q_okS_7 (T : Tab) (sc : Scope) (tb : List (Str × Nat)) t a z1 : okS T sc tb (.whl t a z1) = (okX T sc tb t && okSL T sc tb a) := rfl
theorem q_okS_8 (T : Tab) (sc : Scope) (tb : List (Str × Nat)) tg sk x y a z1 : okS T sc tb (.for_ tg sk x y a z1) = (okX T sc tb x && (!isZip sk || okX T sc tb y) && skOk T sc sk && (!pairSk sk || manyTg tg) && (tgSlots tg).all (okSlot tb) && okSL T sc tb a) := rfl
theorem q_okS_9 (T : Tab) (sc : Scope) (tb : List (Str × Nat)) x z1 : okS T sc tb (.ret x z1) = (okX T sc tb x) := rfl
theorem q_okS_10 (T : Tab) (sc : Scope) (tb : List (Str × Nat)) g z1 x z2 z3 : okS T sc tb (.raise g z1 x z2 z3) = (okG T sc g && T.gn g == ("LowerFault" : Str) && okX T sc tb x) := rfl
theorem q_okS_11 (T : Tab) (sc : Scope) (tb : List (Str × Nat)) a g z1 x z2 z3 z4 : okS T sc tb (.try_ a g z1 x z2 z3 z4) = (okSL T sc tb a && okG T sc g && T.gn g == ("LowerFault" : Str) && okX T sc tb x) := rfl
theorem q_okS_12 (T : Tab) (sc : Scope) (tb : List (Str × Nat)) z1 : okS T sc tb (.dead z1) = (false) := rfl
theorem q_okSL_0 (T : Tab) (sc : Scope) (tb : List (Str × Nat)) : okSL T sc tb .nil = (true) := rfl
theorem q_okSL_1 (T : Tab) (sc : Scope) (tb : List (Str × Nat)) s r : okSL T sc tb (.cons s r) = (okS T sc tb s && okSL T sc tb r) := rfl
noncomputable def okFn (sc : Scope) (fn : Fn) : Bool :=
  nodupTb fn.tb && decide (fn.np ≤ fn.tb.length) && (List.range fn.tb.length).all (fun i => match fn.tb[i]? with
    | some (nm, k) => (k == 0 && decide (fn.np ≤ i)) || (k == 1 && decide (sc.names.lookup nm = some .local)) || (k == 2 && decide (sc.names.lookup nm = some .cell))
    | none => true)
noncomputable def RaiseW (lf : Addr) (prog : Program) (w : World) (b₀ : Heap) : Prop :=
  ∀ (A : Around) (env : Env) (g : Str) (pn pc pos : Pos) (arg : PySem.Expr) (s : Shared) (E : Value → Shared → Prop) (Q : Flow → Shared → Prop),
    A.handled = none → A.depth ≤ 900 → (starEach [arg] env = [(false, eval arg env)]) →
    wpAny (model prog w) A (eval (.Name g pn) env) (fun f s₁ => f = .ref lf ∧ wpAny (model prog w) A (eval arg env) (fun v s₂ => (∃ x t, v = .str x t) ∧ (∀ a o, b₀.get? a = some o → s₂.heap.get? a = some o) ∧
      ∀ h' tk e, (∀ b o, s₂.heap.get? b = some o → h'.get? b = some o) → s₂.heap.get? e = none → (∃ d t, h'.get? e = some { cls := .ref lf, dict := d, data := .fields #[.ref t, .none, .none, .none, .bool false, .none] }) → E (.ref e) { s₂ with heap := h', toks := tk }) E s₁) E s →
    wpAny (model prog w) A (exec (.Raise (some (.Call (.Name g pn) [arg] [] pc)) none pos) env) Q E s
noncomputable def MatchW (lf : Addr) (prog : Program) (w : World) (b₀ : Heap) : Prop :=
  ∀ (A : Around) (s : Shared) (e : Addr) (E : Value → Shared → Prop) (Q : Bool → Shared → Prop), (∀ a o, b₀.get? a = some o → s.heap.get? a = some o) → (∃ oe, s.heap.get? e = some oe ∧ oe.cls = .ref lf) → Q true s →
    wpAny (model prog w) A (excMatches (.ref e) (.ref lf)) Q E s
structure FnAt (c : Cx) (f : Nat) (fn : Fn) (o : Obj) (fd : FuncData) : Prop where
  at_ : c.b₀.get? (c.fa f) = some o
  data : o.data = .func fd
  body : fd.body = .stmts (slSt c.T fn.tb fn.body)
  clos : fd.closure = []
  glob : fd.globals = mainGlobals
  blt : fd.builtins = builtinsNs
  kind : fd.scope.kind = .function
  co : fd.scope.isCoroutine = false
  gen : fd.scope.isGenerator = false
  rec_ : c.b₀.CodeRec fd.code fd.qualname
  bind : ∀ vals : List Value, vals.length = fn.np → bindArgs fd ⟨vals, []⟩ = pure (((fn.tb.take fn.np).map (·.1)).zip vals)
  okB : okSL c.T fd.scope fn.tb fn.body = true
  okT : okFn fd.scope fn = true
noncomputable def blts : List Str := ["tuple", "list", "dict", "str", "int", "len", "range", "enumerate", "zip"]
inductive Glob (T : Tab) (K : Frag) (b₀ : Heap) (ca fa : Nat → Addr) : Prop where
  | mk (mg mb : Str → Option Value) (h1 : b₀.Ns mainGlobals mg) (h2 : b₀.Ns builtinsNs mb)
    (h3 : ∀ g x, T.gk g = .dat x → ∃ v, mg (T.gn g) = some v ∧ Rd b₀ v x)
    (h4 : ∀ g f inl, T.gk g = .fn f inl → mg (T.gn g) = some (.ref (fa f)) ∧ keepIn K (.ref (fa f)) = true)
    (h5 : ∀ g k f, T.gk g = .cls k f → mg (T.gn g) = some (.ref (ca k)) ∧ keepIn K (.ref (ca k)) = true ∧ makesIn K (ca k) = true ∧
      findIn K (.ref (ca k)) "__init__" = some (some (.ref (fa f))) ∧ typeIn K (.ref (fa f)) = some (.type "function"))
    (h6 : ∀ nm ∈ blts, mg nm = none ∧ mb nm = bootBuiltins nm) : Glob T K b₀ ca fa
structure Wd (lf : Addr) (c : Cx) : Prop where
  kin : c.K.In c.b₀
  noLim : c.b₀.NoLimit
  sys : ∃ o, c.b₀.get? sysModules = some o
  anI : ∀ a b, c.T.an a = c.T.an b → c.T.an a ≠ ("" : Str) → a = b
  clsF : ∀ g k f, c.T.gk g = .cls k f → ∃ cd, clsIn c.K (c.ca k) = some cd ∧ cd.hasDict = true ∧ findIn c.K (.ref (c.ca k)) "__getattribute__" = some (some (.builtin "object.__getattribute__")) ∧
    (∀ a, plainAt (c.T.ak a) k = true → findIn c.K (.ref (c.ca k)) (c.T.an a) = some none) ∧ findIn c.K (.ref (c.ca k)) "__getattr__" = some none ∧
    (∀ a f, c.T.ak a = .own k f → findIn c.K (.ref (c.ca k)) (c.T.an a) = some (some (.ref (c.fa f))) ∧ typeIn c.K (.ref (c.fa f)) = some (.type "function") ∧ keepIn c.K (.ref (c.fa f)) = true)
  noDig : ∃ mc, c.b₀.Ns cStatics mc ∧ mc "sys.int_max_str_digits" = none
  glob : Glob c.T c.K c.b₀ c.ca c.fa
  setF : ∀ g k f, c.T.gk g = .cls k f → findIn c.K (.ref (c.ca k)) "__setattr__" = some (some (.builtin "object.__setattr__")) ∧ plainOver c.K (c.ca k) = true
  lfN : ∃ mg, c.b₀.Ns mainGlobals mg ∧ mg ("LowerFault" : Str) = some (.ref lf)
  raise : RaiseW lf c.prog c.w c.b₀
  catch_ : MatchW lf c.prog c.w c.b₀
  fns : ∀ f fn, c.fs[f]? = some fn → ∃ o fd, FnAt c f fn o fd
  tabE : c.T = tab ∧ c.fs = Mine.fns
structure Cok (n : Nat) (lf : Addr) (c : Cx) : Prop where
  rm : Rm n c.A
  fm : c.A.frames = some c.frs
  wd : Wd lf c
noncomputable def Gk (sc : Scope) (env : Env) : Prop := ∀ nm, sc.names.lookup nm = some NameKind.globalImplicit → env.kindOf nm = some .globalImplicit
noncomputable def HX {β : Type} (c : Cx) (lf : Addr) (fr : List Addr) (αs : List (Addr × Addr)) (σ : Sg) (s : Shared) (r : Out β) (E : Value → Shared → Prop) : Prop :=
  r = .ex → ∀ nt e h' tk, Exn c lf (Wl c fr αs σ) s.heap nt e h' → E (.ref e) { s with heap := h', toks := tk }
theorem HX.after {β γ : Type} {c : Cx} {lf : Addr} {fr : List Addr} {αs αs' : List (Addr × Addr)} {σ σ' : Sg} {s : Shared} {r : Out β} {r' : Out γ} {E : Value → Shared → Prop} {h : Heap} {t : Nat}
    (H : HX c lf fr αs σ s r E) (N : Nx c fr αs σ s.heap αs' σ' h) (hr : r' = .ex → r = .ex) : HX c lf fr αs' σ' { s with heap := h, toks := t } r' E :=
  fun e nt x h' tk X => H (hr e) nt x h' tk (X.before N)
noncomputable def SoundX (n : Nat) (lf : Addr) (Fo : Orc) (x : X) : Prop :=
  ∀ (c : Cx), Cok n lf c → ∀ (fr : List Addr) (sc : Scope) (tb : List (Str × Nat)) (env : Env) (vs : Vs) (αs : List (Addr × Addr)) (σ : Sg) (s : Shared) (Q : Value → Shared → Prop) (E : Value → Shared → Prop),
    Inv c fr tb env vs αs σ s.heap → Gk sc env → okX c.T sc tb x = true → ev c.T Fo vs x σ ≠ .stuck →
    (∀ V σ', ev c.T Fo vs x σ = .ok V σ' → ∀ v αs' h' tk, Inv c fr tb env vs αs' σ' h' → Nx c fr αs σ s.heap αs' σ' h' → VR (Fz (Wl c fr αs' σ') h') αs' v V → Q v { s with heap := h', toks := tk }) →
    HX c lf fr αs σ s (ev c.T Fo vs x σ) E →
    wpAny (model c.prog c.w) c.A (eval (xE c.T tb x) env) Q E s
section
variable {n : Nat} {lf : Addr} {Fo : Orc} {c : Cx} {fr : List Addr} {sc : Scope} {tb : List (Str × Nat)} {env : Env} {vs : Vs} {αs : List (Addr × Addr)} {σ : Sg} {s : Shared}
theorem bind_ok {β γ : Type} {r₁ : Out β} {f : β → Sg → Out γ} {r : Out γ} (hr : r = r₁.bind f) (hn : r ≠ .stuck) : r₁ ≠ .stuck := by
  rintro rfl; exact hn hr
theorem SoundX.run {x : X} (H : SoundX n lf Fo x) (C : Cok n lf c) (I : Inv c fr tb env vs αs σ s.heap) (G : Gk sc env) (ok : okX c.T sc tb x = true) {β : Type} {r : Out β} {f : V → Sg → Out β} (hr : r = (ev c.T Fo vs x σ).bind f) (hn : r ≠ .stuck)
    {Q : Value → Shared → Prop} {E : Value → Shared → Prop} (hx : HX c lf fr αs σ s r E)
    (hq : ∀ a σ₁ v αs₁ h₁ t₁, r = f a σ₁ → Inv c fr tb env vs αs₁ σ₁ h₁ → Nx c fr αs σ s.heap αs₁ σ₁ h₁ → VR (Fz (Wl c fr αs₁ σ₁) h₁) αs₁ v a → HX c lf fr αs₁ σ₁ { s with heap := h₁, toks := t₁ } r E → Q v { s with heap := h₁, toks := t₁ }) :
    wpAny (model c.prog c.w) c.A (eval (xE c.T tb x) env) Q E s := by
  refine H c C fr sc tb env vs αs σ s Q E I G ok (bind_ok hr hn) (fun V σ' e v αs' h' tk I' N R => ?_) (fun e => ?_)
  · rw [e] at hr
    exact hq V σ' v αs' h' tk hr I' N R (hx.after N id)
  · exact hx (by rw [hr, e]; rfl)
set_option tactic.hygienic true in
theorem okVar_get {tb : List (Str × Nat)} {i : Nat} (h : okVar tb i = true) : ∃ nm, (tb[i]? = some (nm, 1) ∨ tb[i]? = some (nm, 2)) ∧ (nm == ("__debug__" : Str)) = false ∧ (tb.getD i default).1 = nm := by
  unfold okVar at h
  split at h
  · rename_i nm k e
    simp only [Bool.and_eq_true, Bool.or_eq_true, beq_iff_eq, bne_iff_ne] at h
    refine ⟨nm, ?_, by simpa using h.2, by rw [List.getD_eq_getElem?_getD, e]; rfl⟩
    rcases h.1 with rfl | rfl
    · exact .inl e
    · exact .inr e
  · cases h
theorem sound_cst (k : Const) (m : Nat) (p : Pos) : SoundX n lf Fo (.cst k m p) := by
  intro c C fr sc tb env vs αs σ s Q E I G ok hn hq hx
  simp only [q_ev_0] at hq hn
  cases k with
  | none => exact wpAny_Constant_none (hq _ _ rfl _ αs s.heap s.toks I .refl rd_none)
  | bool b => exact wpAny_Constant_bool (hq _ _ rfl _ αs s.heap s.toks I .refl (rd_bool b))
  | int i => exact wpAny_Constant_int (hq _ _ rfl _ αs s.heap _ I .refl (rd_int i _))
  | str x => exact wpAny_Constant_str (hq _ _ rfl _ αs s.heap _ I .refl (rd_str _ (by simpa [q_okX_0, q_okX_1, q_okX_2, q_okX_3, q_okX_4, q_okX_5, q_okX_6, q_okX_7, q_okX_8, q_okX_9, q_okX_10, q_okX_11, q_okX_12, q_okX_13, q_okX_14, q_okX_15, q_okX_16, q_okX_17, q_okX_18, q_okX_19, q_okX_20] using ok)))
  | _ => exact absurd rfl hn
theorem sound_var (i : Nat) (p : Pos) : SoundX n lf Fo (.var i p) := by
  intro c C fr sc tb env vs αs σ s Q E I G ok hn hq hx
  simp only [q_ev_1] at hq hn
  obtain ⟨nm, hk, hd, hnm⟩ := okVar_get (by simpa [q_okX_0, q_okX_1, q_okX_2, q_okX_3, q_okX_4, q_okX_5, q_okX_6, q_okX_7, q_okX_8, q_okX_9, q_okX_10, q_okX_11, q_okX_12, q_okX_13, q_okX_14, q_okX_15, q_okX_16, q_okX_17, q_okX_18, q_okX_19, q_okX_20] using ok)
  simp only [q_xE_1, hnm]
  cases hv : getV vs i with
  | none => rw [hv] at hn; exact absurd rfl hn
  | some V =>
    rw [hv] at hq
    rcases hk with hk | hk
    · obtain ⟨m, hns, hm⟩ := I.fv.loc
      obtain ⟨v, e1, e2⟩ := hm i nm V hk hv
      exact wpAny_Name (wpAny_loadName_local I.ek.kind (I.ek.loc i nm hk) hns e1 (hq _ _ rfl v αs s.heap s.toks I .refl e2)) hd
    · obtain ⟨a, ov, e1, e2, e3⟩ := I.fv.cel i nm hk
      obtain ⟨v, e4, e5⟩ := e3 V hv
      exact wpAny_Name (wpAny_loadName_cell I.ek.kind (I.ek.cel i nm hk) e1 (e4 ▸ e2) (hq _ _ rfl v αs s.heap s.toks I .refl e5)) hd
theorem okG_split {T : Tab} {sc : Scope} {g : Nat} (h : okG T sc g = true) : sc.names.lookup (T.gn g) = some .globalImplicit ∧ (T.gn g == ("__debug__" : Str)) = false := by
  simp only [okG, Bool.and_eq_true, decide_eq_true_eq, bne_iff_ne] at h
  exact ⟨h.1, by simpa using h.2⟩
theorem name_glob (C : Cok n lf c) (I : Inv c fr tb env vs αs σ s.heap) (G : Gk sc env) {g : Nat} (ok : okG c.T sc g = true) {p : Pos} {v : Value} {Q : Value → Shared → Prop} {E : Value → Shared → Prop}
    (hv : ∀ mg, c.b₀.Ns mainGlobals mg → (∀ g x, c.T.gk g = .dat x → ∃ v, mg (c.T.gn g) = some v ∧ Rd c.b₀ v x) →
    (∀ g f inl, c.T.gk g = .fn f inl → mg (c.T.gn g) = some (.ref (c.fa f)) ∧ keepIn c.K (.ref (c.fa f)) = true) →
    (∀ g k f, c.T.gk g = .cls k f → mg (c.T.gn g) = some (.ref (c.ca k)) ∧ keepIn c.K (.ref (c.ca k)) = true ∧ makesIn c.K (c.ca k) = true ∧
      findIn c.K (.ref (c.ca k)) "__init__" = some (some (.ref (c.fa f))) ∧ typeIn c.K (.ref (c.fa f)) = some (.type "function")) → mg (c.T.gn g) = some v) (h : Q v s) :
    wpAny (model c.prog c.w) c.A (eval (.Name (c.T.gn g) p) env) Q E s := by
  obtain ⟨o1, o2⟩ := okG_split ok
  obtain ⟨mg, mb, h1, h2, h3, h4, h5, h6⟩ := C.wd.glob
  refine Name_function_global I.ek.kind (G _ o1) ?_ o2
  exact loadGlobal_global (mg := mg) (by rw [I.ek.glob]; exact h1.keeps I.st.base) (hv mg h1 h3 h4 h5) h
theorem name_blt (C : Cok n lf c) (I : Inv c fr tb env vs αs σ s.heap) (G : Gk sc env) {g : Nat} (ok : okG c.T sc g = true) {p : Pos} {v : Value} {Q : Value → Shared → Prop} {E : Value → Shared → Prop} (hm : c.T.gn g ∈ blts)
    (hv : bootBuiltins (c.T.gn g) = some v) (h : Q v s) :
    wpAny (model c.prog c.w) c.A (eval (.Name (c.T.gn g) p) env) Q E s := by
  obtain ⟨o1, o2⟩ := okG_split ok
  obtain ⟨mg, mb, h1, h2, h3, h4, h5, h6⟩ := C.wd.glob
  refine Name_function_global I.ek.kind (G _ o1) ?_ o2
  exact loadGlobal_builtin (mg := mg) (mb := mb) (by rw [I.ek.glob]; exact h1.keeps I.st.base) (h6 _ hm).1 (by rw [I.ek.blt]; exact h2.keeps I.st.base) ((h6 _ hm).2.trans hv) h
theorem sound_glb (g : Nat) (p : Pos) : SoundX n lf Fo (.glb g p) := by
  intro c C fr sc tb env vs αs σ s Q E I G ok hn hq hx
  simp only [q_ev_2] at hq hn
  cases hk : c.T.gk g with
  | dat x =>
    rw [hk] at hq
    have ok : okG c.T sc g = true := by simpa [q_okX_0, q_okX_1, q_okX_2, q_okX_3, q_okX_4, q_okX_5, q_okX_6, q_okX_7, q_okX_8, q_okX_9, q_okX_10, q_okX_11, q_okX_12, q_okX_13, q_okX_14, q_okX_15, q_okX_16, q_okX_17, q_okX_18, q_okX_19, q_okX_20] using ok
    obtain ⟨o1, o2⟩ := okG_split ok
    obtain ⟨mg, mb, h1, h2, h3, h4, h5, h6⟩ := C.wd.glob
    obtain ⟨v, e1, e2⟩ := h3 g x hk
    refine Name_function_global I.ek.kind (G _ o1) ?_ o2
    exact loadGlobal_global (mg := mg) (by rw [I.ek.glob]; exact h1.keeps I.st.base) e1 (hq _ _ rfl v αs s.heap s.toks I .refl (e2.keeps I.st.baseF))
  | _ => rw [hk] at hn; exact absurd rfl hn
end
section
variable {n : Nat} {lf : Addr} {Fo : Orc} {c : Cx} {fr : List Addr} {sc : Scope} {tb : List (Str × Nat)} {env : Env} {vs : Vs} {αs : List (Addr × Addr)} {σ : Sg} {s : Shared}
set_option tactic.hygienic true in
theorem esc_ok {h : Heap} (I : Inv c fr tb env vs αs σ h) {v : Value} {u : V} (R : VR (Fz (Wl c fr αs σ) h) αs v u) {x : PyData} {σ' : Sg} (e : esc u σ = .ok x σ') :
    Inv c fr tb env vs αs σ' h ∧ Nx c fr αs σ h αs σ' h ∧ Rd (Fz (Wl c fr αs σ') h) v x := by
  cases u with
  | d y => cases e; exact ⟨I, .refl, R⟩
  | o k =>
    obtain ⟨p, hp, rfl⟩ := R
    simp only [esc] at e
    split at e
    · rename_i fz ds hc
      cases e
      exact ⟨I.frz hp hc, St.frz_nx hp hc, (I.st.frz hp hc).2⟩
    · cases e
set_option tactic.hygienic true in
theorem arg_ok {h : Heap} (I : Inv c fr tb env vs αs σ h) {v : Value} {u u' : V} (R : VR (Fz (Wl c fr αs σ) h) αs v u) {σ' : Sg} (e : arg u σ = .ok u' σ') :
    Inv c fr tb env vs αs σ' h ∧ Nx c fr αs σ h αs σ' h ∧ VR (Fz (Wl c fr αs σ') h) αs v u' := by
  cases u with
  | d y => cases e; exact ⟨I, .refl, R⟩
  | o k =>
    have R' := R
    obtain ⟨p, hp, rfl⟩ := R
    simp only [arg] at e
    split at e
    · rename_i fz ds hc
      cases e
      exact ⟨I.frz hp hc, St.frz_nx hp hc, (I.st.frz hp hc).2⟩
    · cases e; exact ⟨I, .refl, R'⟩
    · cases e
theorem esc_ne {u : V} {σ : Sg} : esc u σ ≠ .ex := by
  cases u with
  | d y => simp [esc]
  | o k => simp only [esc]; split <;> simp
theorem arg_ne {u : V} {σ : Sg} : arg u σ ≠ .ex := by
  cases u with
  | d y => simp [arg]
  | o k => simp only [arg]; split <;> simp
theorem star_x {T : Tab} {tb : List (Str × Nat)} {x : X} (hx : ∀ e, x ≠ .dead e) {r : List PySem.Expr} {env : Env} : starEach (xE T tb x :: r) env = (false, eval (xE T tb x) env) :: starEach r env := by
  cases x with
  | dead e => exact absurd rfl (hx e)
  | _ => simp only [q_xE_0, q_xE_1, q_xE_2, q_xE_3, q_xE_4, q_xE_5, q_xE_6, q_xE_7, q_xE_8, q_xE_9, q_xE_10, q_xE_11, q_xE_12, q_xE_13, q_xE_14, q_xE_15, q_xE_16, q_xE_17, q_xE_18, q_xE_19]; rfl
theorem not_dead {T : Tab} {vs : Vs} {x : X} {σ : Sg} (h : ev T Fo vs x σ ≠ .stuck) : ∀ e, x ≠ .dead e := by
  rintro e rfl; exact h (by simp only [q_ev_20])
noncomputable def SoundD (n : Nat) (lf : Addr) (Fo : Orc) (xs : XL) : Prop :=
  ∀ (c : Cx), Cok n lf c → ∀ (fr : List Addr) (sc : Scope) (tb : List (Str × Nat)) (env : Env) (vs : Vs) (αs : List (Addr × Addr)) (σ : Sg) (s : Shared) (pos : Pos) (Q : List Value → Shared → Prop) (E : Value → Shared → Prop),
    Inv c fr tb env vs αs σ s.heap → Gk sc env → okL c.T sc tb xs = true → evD c.T Fo vs xs σ ≠ .stuck →
    (∀ ds σ', evD c.T Fo vs xs σ = .ok ds σ' → ∀ us αs' h' tk, Inv c fr tb env vs αs' σ' h' → Nx c fr αs σ s.heap αs' σ' h' → RdA (Fz (Wl c fr αs' σ') h') us ds → us.length = xs.len → Q us { s with heap := h', toks := tk }) →
    HX c lf fr αs σ s (evD c.T Fo vs xs σ) E →
    wpAny (model c.prog c.w) c.A (spliced (backTo pos (starEach (xlE c.T tb xs) env))) Q E s
theorem sound_D_nil : SoundD n lf Fo .nil := by
  intro c C fr sc tb env vs αs σ s pos Q E I G ok hn hq hx
  simp only [q_xlE_0]
  exact wpAny_items_nil (hq [] σ (by simp [q_evD_0]) [] αs s.heap s.toks I .refl .nil rfl)
theorem sound_D_cons {x : X} {xs : XL} (H : SoundX n lf Fo x) (H' : SoundD n lf Fo xs) : SoundD n lf Fo (.cons x xs) := by
  intro c C fr sc tb env vs αs σ s pos Q E I G ok hn hq hx
  simp only [q_okL_1, Bool.and_eq_true] at ok
  simp only [q_evD_1] at hn hq hx
  simp only [q_xlE_1]
  have hn1 := bind_ok rfl hn
  refine wpAny_items_cons ?_ (star_x (not_dead hn1))
  refine H.run C I G ok.1 rfl hn hx (fun a σ₁ v αs₁ h₁ t₁ hr I₁ N₁ R₁ hx₁ => ?_)
  rw [hr] at hn hq hx₁
  cases he : esc a σ₁ with
  | stuck => rw [he] at hn; exact absurd rfl hn
  | ex => exact absurd he esc_ne
  | ok y σ₂ =>
    rw [he] at hn hq hx₁
    obtain ⟨I₂, N₂, R₂⟩ := esc_ok I₁ R₁ he
    have N₁₂ := N₁.trans N₂
    simp only [Out.bind] at hn hq hx₁
    have hx₂ := hx₁.after (s := { s with heap := h₁, toks := t₁ }) (h := h₁) (t := t₁) (r' := (evD c.T Fo vs xs σ₂).bind fun ys σ => Out.ok (y :: ys) σ) N₂ id
    refine H' c C fr sc tb env vs αs₁ σ₂ _ pos _ E I₂ G ok.2 (bind_ok rfl hn) (fun ds σ' e us αs' h' tk I' N' R' hl => ?_) (fun e => ?_)
    · rw [e] at hq
      refine hq _ _ rfl (v :: us) αs' h' tk I' (N₁₂.trans N') (.cons (N'.rd R₂) R') ?_
      rw [List.length_cons, hl, XL.len]
    · refine hx₂ ?_
      rw [e]; rfl
theorem len_le {k m : Nat} (h : k = m) (hm : m ≤ 1000) : k ≤ sizeLine := by rw [sizeLine_eq]; omega
theorem fresh {h : Heap} : h.get? h.objs.size = none := Heap.get?_none_of_le (Nat.le_refl _)
theorem push_in {h : Heap} (I : Inv c fr tb env vs αs σ h) {o : Obj} (hf : o.isFreed = false) : Inv c fr tb env vs αs σ (h.push o) ∧ Nx c fr αs σ h αs σ (h.push o) ∧ (Fz (Wl c fr αs σ) (h.push o)).get? h.objs.size = some o := by
  have k : ∀ b o', h.get? b = some o' → (h.push o).get? b = some o' := fun b o' e => Heap.get?_push_of_some _ e
  refine ⟨I.keep k, .keep k, fz_iff.mpr ⟨Heap.get?_push_size _ hf, fun hm => ?_⟩⟩
  have : ∃ o', h.get? h.objs.size = some o' := by
    rcases mem_Wl.mp hm with q | q | ⟨k, p, cl, h1, h2, _, h4⟩
    · exact I.st.thr _ (.inl q)
    · exact I.st.thr _ (.inr q)
    · exact (I.st.cell k p cl h1 h2).there _ h4
  obtain ⟨o', e⟩ := this
  rw [fresh] at e; cases e
end
section
variable {n : Nat} {lf : Addr} {Fo : Orc} {c : Cx} {fr : List Addr} {sc : Scope} {tb : List (Str × Nat)} {env : Env} {vs : Vs} {αs : List (Addr × Addr)} {σ : Sg} {s : Shared}
theorem Inv.z_in {h : Heap} {W : List Addr} : ∀ b o, (Fz W h).get? b = some o → h.get? b = some o := fun b o e => (fz_iff.mp e).1
set_option tactic.hygienic true in
theorem rd_ok {h : Heap} (I : Inv c fr tb env vs αs σ h) {v : Value} {u : V} (R : VR (Fz (Wl c fr αs σ) h) αs v u) {x : PyData} (e : rd σ u = some x) : Rd h v x := by
  cases u with
  | d y => cases e; exact Rd.keeps R Inv.z_in
  | o k =>
    obtain ⟨p, hp, rfl⟩ := R
    simp only [rd] at e
    split at e
    · rename_i fz ds hc
      cases e
      obtain ⟨vs', ⟨m, hv⟩, r⟩ := I.st.cell k p _ hp hc
      exact rd_list hv rfl rfl (r.keeps Inv.z_in)
    · cases e
theorem sound_tup {xs : XL} (H : SoundD n lf Fo xs) (k : Nat) (p : Pos) : SoundX n lf Fo (.tup xs k p) := by
  intro c C fr sc tb env vs αs σ s Q E I G ok hn hq hx
  simp only [q_okX_3, Bool.and_eq_true, decide_eq_true_eq] at ok
  simp only [q_ev_3] at hn hq hx
  simp only [q_xE_3]
  refine wpAny_Tuple (H c C fr sc tb env vs αs σ s p _ E I G ok.1 (bind_ok rfl hn) (fun ds σ' e us αs' h' tk I' N R hl => ⟨len_le hl ok.2, ?_⟩) (fun e => hx (by rw [e]; rfl)))
  rw [e] at hq
  obtain ⟨I₂, N₂, g⟩ := push_in I' (o := { cls := .type "tuple", data := .seq us.toArray }) rfl
  exact hq _ _ rfl _ αs' _ _ I₂ (N.trans N₂) (rd_tuple g rfl rfl (by simpa using N₂.rda R))
theorem sound_lst {xs : XL} (H : SoundD n lf Fo xs) (p : Pos) : SoundX n lf Fo (.lst xs p) := by
  intro c C fr sc tb env vs αs σ s Q E I G ok hn hq hx
  simp only [q_okX_4, Bool.and_eq_true, decide_eq_true_eq] at ok
  simp only [q_ev_4] at hn hq hx
  simp only [q_xE_4]
  refine wpAny_List (H c C fr sc tb env vs αs σ s p _ E I G ok.1 (bind_ok rfl hn) (fun ds σ' e us αs' h' tk I' N R hl => ⟨len_le hl ok.2, ?_⟩) (fun e => hx (by rw [e]; rfl)))
  rw [e] at hq
  obtain ⟨I₂, N₂, g⟩ := push_in I' (o := { cls := .type "list", data := .seq us.toArray }) rfl
  exact hq _ _ rfl _ αs' _ _ I₂ (N.trans N₂) (rd_list g rfl rfl (by simpa using N₂.rda R))
noncomputable def SoundT (n : Nat) (lf : Addr) (Fo : Orc) (x : X) : Prop :=
  ∀ (c : Cx), Cok n lf c → ∀ (fr : List Addr) (sc : Scope) (tb : List (Str × Nat)) (env : Env) (vs : Vs) (αs : List (Addr × Addr)) (σ : Sg) (s : Shared) (Q : Bool → Shared → Prop) (E : Value → Shared → Prop),
    Inv c fr tb env vs αs σ s.heap → Gk sc env → okX c.T sc tb x = true → ev c.T Fo vs x σ ≠ .stuck →
    (∀ V σ', ev c.T Fo vs x σ = .ok V σ' → ∃ b, V = .d (.bool b) ∧ ∀ αs' h' tk, Inv c fr tb env vs αs' σ' h' → Nx c fr αs σ s.heap αs' σ' h' → Q b { s with heap := h', toks := tk }) →
    HX c lf fr αs σ s (ev c.T Fo vs x σ) E →
    wpAny (model c.prog c.w) c.A (isTrue (xE c.T tb x) env (eval (xE c.T tb x) env)) Q E s
theorem truth_of {x : X} (H : SoundX n lf Fo x) (C : Cok n lf c) {Q : Bool → Shared → Prop} {E : Value → Shared → Prop} (I : Inv c fr tb env vs αs σ s.heap) (G : Gk sc env) (ok : okX c.T sc tb x = true) (hn : ev c.T Fo vs x σ ≠ .stuck)
    (hq : ∀ V σ', ev c.T Fo vs x σ = .ok V σ' → ∃ b, V = .d (.bool b) ∧ ∀ αs' h' tk, Inv c fr tb env vs αs' σ' h' → Nx c fr αs σ s.heap αs' σ' h' → Q b { s with heap := h', toks := tk })
    (hx : HX c lf fr αs σ s (ev c.T Fo vs x σ) E) : wpAny (model c.prog c.w) c.A (eval (xE c.T tb x) env) (fun v s₁ => wpAny (model c.prog c.w) c.A (truthy v) Q E s₁) E s := by
  refine H c C fr sc tb env vs αs σ s _ E I G ok hn (fun V σ' e v αs' h' tk I' N R => ?_) hx
  obtain ⟨b, rfl, q⟩ := hq V σ' e
  obtain rfl := Rd.bool R
  exact wpAny_truthy_bool (q αs' h' tk I' N)
theorem SoundT.run {x : X} (H : SoundT n lf Fo x) (C : Cok n lf c) (I : Inv c fr tb env vs αs σ s.heap) (G : Gk sc env) (ok : okX c.T sc tb x = true) {β : Type} {r : Out β} {f : V → Sg → Out β} (hr : r = (ev c.T Fo vs x σ).bind f) (hn : r ≠ .stuck)
    (hb : ∀ V σ, f V σ ≠ .stuck → ∃ b, V = .d (.bool b))
    {Q : Bool → Shared → Prop} {E : Value → Shared → Prop} (hx : HX c lf fr αs σ s r E)
    (hq : ∀ b σ₁ αs₁ h₁ t₁, r = f (.d (.bool b)) σ₁ → Inv c fr tb env vs αs₁ σ₁ h₁ → Nx c fr αs σ s.heap αs₁ σ₁ h₁ → HX c lf fr αs₁ σ₁ { s with heap := h₁, toks := t₁ } r E → Q b { s with heap := h₁, toks := t₁ }) :
    wpAny (model c.prog c.w) c.A (isTrue (xE c.T tb x) env (eval (xE c.T tb x) env)) Q E s := by
  refine H c C fr sc tb env vs αs σ s Q E I G ok (bind_ok hr hn) (fun V σ' e => ?_) (fun e => ?_)
  · rw [e] at hr
    obtain ⟨b, rfl⟩ := hb V σ' (by intro q; apply hn; rw [hr]; exact q)
    exact ⟨b, rfl, fun αs' h' tk I' N => hq b σ' αs' h' tk hr I' N (hx.after N id)⟩
  · exact hx (by rw [hr, e]; rfl)
theorem truth_plain {x : X} (H : SoundX n lf Fo x) (he : ∀ (T : Tab) (tb : List (Str × Nat)) (env : Env) (whole : Sem Value), isTrue (xE T tb x) env whole = (do let v ← whole; standAt (xE T tb x).pos; holding [v] (truthy v))) : SoundT n lf Fo x := by
  intro c C fr sc tb env vs αs σ s Q E I G ok hn hq hx
  exact wpAny_isTrue_value (truth_of H C I G ok hn hq hx) (he ..)
theorem sound_not {x : X} (H : SoundX n lf Fo x) (p : Pos) : SoundX n lf Fo (.bnot x p) := by
  intro c C fr sc tb env vs αs σ s Q E I G ok hn hq hx
  simp only [q_okX_15] at ok
  simp only [q_ev_14] at hn hq hx
  simp only [q_xE_15]
  refine wpAny_UnaryOp (H.run C I G ok rfl hn hx (fun V σ₁ v αs₁ h₁ t₁ hr I₁ N₁ R₁ _ => ?_))
  rw [hr] at hn hq
  cases V with
  | o k => exact absurd rfl hn
  | d y =>
    cases y with
    | bool b =>
      obtain rfl := Rd.bool R₁
      exact not_value (wpAny_truthy_bool (hq _ _ rfl _ αs₁ h₁ t₁ I₁ N₁ (rd_bool _)))
    | _ => exact absurd rfl hn
theorem truth_not {x : X} (H : SoundT n lf Fo x) (p : Pos) : SoundT n lf Fo (.bnot x p) := by
  intro c C fr sc tb env vs αs σ s Q E I G ok hn hq hx
  simp only [q_okX_15] at ok
  simp only [q_ev_14] at hn hq hx
  simp only [q_xE_15]
  refine wpAny_isTrue_Not (H.run C I G ok rfl hn (fun V σ h => ?_) hx (fun b σ₁ αs₁ h₁ t₁ hr I₁ N₁ _ => ?_))
  · split at h
    · exact ⟨_, rfl⟩
    · exact absurd rfl h
  · obtain ⟨b', e1, q⟩ := hq _ σ₁ hr
    cases e1
    exact q αs₁ h₁ t₁ I₁ N₁
theorem sound_neg {x : X} (H : SoundX n lf Fo x) (p : Pos) : SoundX n lf Fo (.neg x p) := by
  intro c C fr sc tb env vs αs σ s Q E I G ok hn hq hx
  simp only [q_okX_18] at ok
  simp only [q_ev_17] at hn hq hx
  simp only [q_xE_18]
  refine wpAny_UnaryOp (H.run C I G ok rfl hn hx (fun V σ₁ v αs₁ h₁ t₁ hr I₁ N₁ R₁ _ => ?_))
  rw [hr] at hn hq
  cases V with
  | o k => exact absurd rfl hn
  | d y =>
    cases y with
    | int i =>
      obtain ⟨t, rfl⟩ := Rd.int R₁
      exact P.neg_int (hq _ _ rfl _ αs₁ h₁ _ I₁ N₁ (rd_int _ _))
    | _ => exact absurd rfl hn
theorem sound_ife {t x y : X} (Ht : SoundT n lf Fo t) (Hx : SoundX n lf Fo x) (Hy : SoundX n lf Fo y) (p : Pos) : SoundX n lf Fo (.ife t x y p) := by
  intro c C fr sc tb env vs αs σ s Q E I G ok hn hq hx
  simp only [q_okX_16, Bool.and_eq_true] at ok
  simp only [q_ev_15] at hn hq hx
  simp only [q_xE_16]
  refine wpAny_IfExp (Ht.run C I G ok.1.1 rfl hn (fun V σ h => ?_) hx (fun b σ₁ αs₁ h₁ t₁ hr I₁ N₁ hx₁ => ?_))
  · split at h
    · exact ⟨_, rfl⟩
    · exact ⟨_, rfl⟩
    · exact absurd rfl h
  · rw [hr] at hn hq hx₁
    cases b with
    | true =>
      simp only [if_true]
      exact Hx c C fr sc tb env vs αs₁ σ₁ _ Q E I₁ G ok.1.2 hn (fun V σ' e v αs' h' tk I' N' R => hq V σ' e v αs' h' tk I' (N₁.trans N') R) hx₁
    | false =>
      simp only [Bool.false_eq_true, if_false]
      exact Hy c C fr sc tb env vs αs₁ σ₁ _ Q E I₁ G ok.2 hn (fun V σ' e v αs' h' tk I' N' R => hq V σ' e v αs' h' tk I' (N₁.trans N') R) hx₁
theorem truth_ife {t x y : X} (Ht : SoundT n lf Fo t) (Hx : SoundT n lf Fo x) (Hy : SoundT n lf Fo y) (p : Pos) : SoundT n lf Fo (.ife t x y p) := by
  intro c C fr sc tb env vs αs σ s Q E I G ok hn hq hx
  simp only [q_okX_16, Bool.and_eq_true] at ok
  simp only [q_ev_15] at hn hq hx
  simp only [q_xE_16]
  rw [arm_isTrue_IfExp]
  refine wpAny_bind (wpAny_mono (Ht.run C I G ok.1.1 rfl hn (fun V σ h => ?_) hx (Q := fun b s₁ => if b then wpAny (model c.prog c.w) c.A (isTrue (xE c.T tb x) env (eval (xE c.T tb x) env)) Q E s₁ else wpAny (model c.prog c.w) c.A (isTrue (xE c.T tb y) env (eval (xE c.T tb y) env)) Q E s₁) (fun b σ₁ αs₁ h₁ t₁ hr I₁ N₁ hx₁ => ?_)) (fun b s₁ h => ?_) fun _ _ x => x)
  · split at h
    · exact ⟨_, rfl⟩
    · exact ⟨_, rfl⟩
    · exact absurd rfl h
  · rw [hr] at hn hq hx₁
    cases b with
    | true =>
      simp only [if_true]
      exact Hx c C fr sc tb env vs αs₁ σ₁ _ Q E I₁ G ok.1.2 hn (fun V σ' e => let ⟨b, e1, q⟩ := hq V σ' e; ⟨b, e1, fun αs' h' tk I' N' => q αs' h' tk I' (N₁.trans N')⟩) hx₁
    | false =>
      simp only [Bool.false_eq_true, if_false]
      exact Hy c C fr sc tb env vs αs₁ σ₁ _ Q E I₁ G ok.2 hn (fun V σ' e => let ⟨b, e1, q⟩ := hq V σ' e; ⟨b, e1, fun αs' h' tk I' N' => q αs' h' tk I' (N₁.trans N')⟩) hx₁
  · cases b <;> exact h
theorem units_lt (C : Cok n lf c) : c.A.units + 1000 < 9900 := by have := C.rm.un; omega
theorem rd_reads {h : Heap} {v : Value} {x : PyData} (r : Rd h v x) : ∃ as, Reads h v x as := r.1
theorem depth_list (xs : List PyData) (x : PyData) : min (PyData.depthAll xs) x.depth ≤ x.depth := Nat.min_le_right _ _
noncomputable def CmpOK (c : Cx) (s : Shared) (op : CmpOp) (v w : Value) (b : Bool) : Prop := ∀ (Q : Value → Shared → Prop) (E : Value → Shared → Prop), Q (.bool b) s → wpAny (model c.prog c.w) c.A (compareOp op v w) Q E s
theorem c_line {u d : Nat} (hu : u + 999 < 9900) (hd : d ≤ 900) : u + d < cLine := by unfold cLine; omega
theorem lay_l {xs : List PyData} (h : (PyData.list xs).canLay0 = true) : PyData.canLayAll0 xs = true := by simpa [PyData.canLay0] using h
theorem lay_t {xs : List PyData} (h : (PyData.tuple xs).canLay0 = true) : PyData.canLayAll0 xs = true := by simpa [PyData.canLay0] using h
theorem rd_isN {v : Value} {x : PyData} (rx : Rd s.heap v x) : (v == Value.none) = isN x := by
  obtain ⟨⟨_, a⟩, _⟩ := rx
  cases a <;> rfl
section
variable {v w : Value} {x y : PyData} (rx : Rd s.heap v x) (ry : Rd s.heap w y)
include rx ry
theorem c_is {b : Bool} (e : cmpop .Is x y = some b) : CmpOK c s .Is v w b :=
  asN_e (fun y => Rd s.heap w y → CmpOK c s .Is v w b) e (fun e ry Q E h => by
    obtain rfl := Rd.none ry
    cases e
    rw [← rd_isN rx] at h
    exact is_none_gen h) ry
theorem c_isnot {b : Bool} (e : cmpop .IsNot x y = some b) : CmpOK c s .IsNot v w b :=
  asN_e (fun y => Rd s.heap w y → CmpOK c s .IsNot v w b) e (fun e ry Q E h => by
    obtain rfl := Rd.none ry
    cases e
    rw [← rd_isN rx] at h
    exact isnot_none_gen h) ry
theorem c_int {op : CmpOp} {b : Bool} {f : Int → Int → Bool} (e : ((asI x).bind fun i => (asI y).bind fun j => some (f i j)) = some b) (k : ∀ i j t t', CmpOK c s op (.int i t) (.int j t') (f i j)) : CmpOK c s op v w b :=
  asI_e (fun x => Rd s.heap v x → CmpOK c s op v w b) e (fun i e rx => asI_e (fun y => Rd s.heap w y → CmpOK c s op v w b) e (fun j e ry => sm_e (CmpOK c s op v w) e (by
    obtain ⟨t, rfl⟩ := Rd.int rx
    obtain ⟨t', rfl⟩ := Rd.int ry
    exact k i j t t')) ry) rx
theorem cmp_all (C : Cok n lf c) {op : CmpOp} {b : Bool} (e : cmpop op x y = some b) : CmpOK c s op v w b := by
  have hu := units_lt C
  cases op with
  | Is => exact c_is rx ry e
  | IsNot => exact c_isnot rx ry e
  | Lt => exact c_int rx ry e fun i j t t' Q E h => P.lt_int h
  | LtE => exact c_int rx ry e fun i j t t' Q E h => P.le_int h
  | Gt => exact c_int rx ry e fun i j t t' Q E h => P.gt_int h
  | GtE => exact c_int rx ry e fun i j t t' Q E h => P.ge_int h
  | _ =>
    have lx := rx.2
    have ly := ry.2
    have hv : c.A.units + 999 < 9900 := Nat.lt_of_succ_lt hu
    have hw : c.A.units + 1 + 999 < 9900 := by rw [Nat.add_assoc]; exact hu
    have hd := fun (hd : dok x = true) => (of_decide_eq_true hd : x.depth ≤ 900)
    obtain ⟨_, a⟩ := rx.1
    obtain ⟨_, b⟩ := ry.1
    first
    | exact if_e (CmpOK c s .Eq v w) e fun z Q E h => SeqAt.compareEq_reads a b lx ly (c_line hv (Nat.le_trans (Nat.min_le_left _ _) (hd z))) h
    | exact if_e (CmpOK c s .NotEq v w) e fun z Q E h => SeqAt.compareNe_reads a b lx ly (c_line hv (Nat.le_trans (Nat.min_le_left _ _) (hd z))) h
    | exact it_e (fun y => Reads s.heap w y _ → y.canLay0 = true → CmpOK c s .In v w _) e (fun xs e b ly => if_e (CmpOK c s .In v w) e fun z Q E h => SeqAt.in_list_reads b a (lay_l ly) lx (c_line hw (Nat.le_trans (depth_list xs x) (hd z))) h) (fun xs e b ly => if_e (CmpOK c s .In v w) e fun z Q E h => SeqAt.in_tuple_reads b a (lay_t ly) lx (c_line hw (Nat.le_trans (depth_list xs x) (hd z))) h) b ly
    | exact it_e (fun y => Reads s.heap w y _ → y.canLay0 = true → CmpOK c s .NotIn v w _) e (fun xs e b ly => if_e (CmpOK c s .NotIn v w) e fun z Q E h => SeqAt.notIn_list_reads b a (lay_l ly) lx (c_line hw (Nat.le_trans (depth_list xs x) (hd z))) h) (fun xs e b ly => if_e (CmpOK c s .NotIn v w) e fun z Q E h => SeqAt.notIn_tuple_reads b a (lay_t ly) lx (c_line hw (Nat.le_trans (depth_list xs x) (hd z))) h) b ly
end
theorem cmp_data (C : Cok n lf c) {op : CmpOp} {v w : Value} {x y : PyData} {b : Bool} (rx : Rd s.heap v x) (ry : Rd s.heap w y) (e : cmpop op x y = some b) {Q : Value → Shared → Prop} {E : Value → Shared → Prop}
    (h : Q (.bool b) s) : wpAny (model c.prog c.w) c.A (compareOp op v w) Q E s := cmp_all rx ry C e Q E h
end
section
variable {n : Nat} {lf : Addr} {Fo : Orc} {c : Cx} {fr : List Addr} {sc : Scope} {tb : List (Str × Nat)} {env : Env} {vs : Vs} {αs : List (Addr × Addr)} {σ : Sg} {s : Shared}
noncomputable def SoundB (n : Nat) (lf : Addr) (Fo : Orc) (op : BoolOp) (xs : XL) : Prop :=
  ∀ (c : Cx), Cok n lf c → ∀ (fr : List Addr) (sc : Scope) (tb : List (Str × Nat)) (env : Env) (vs : Vs) (αs : List (Addr × Addr)) (σ : Sg) (s : Shared) (p : Pos) (Q : Value → Shared → Prop) (E : Value → Shared → Prop),
    Inv c fr tb env vs αs σ s.heap → Gk sc env → okL c.T sc tb xs = true → evB c.T Fo vs op xs σ ≠ .stuck →
    (∀ b σ', evB c.T Fo vs op xs σ = .ok (.d (.bool b)) σ' → ∀ αs' h' tk, Inv c fr tb env vs αs' σ' h' → Nx c fr αs σ s.heap αs' σ' h' → Q (.bool b) { s with heap := h', toks := tk }) →
    HX c lf fr αs σ s (evB c.T Fo vs op xs σ) E →
    wpAny (model c.prog c.w) c.A (boolOp p op (evalEach (xlE c.T tb xs) env)) Q E s
noncomputable def SoundTB (n : Nat) (lf : Addr) (Fo : Orc) (op : BoolOp) (xs : XL) : Prop :=
  ∀ (c : Cx), Cok n lf c → ∀ (fr : List Addr) (sc : Scope) (tb : List (Str × Nat)) (env : Env) (vs : Vs) (αs : List (Addr × Addr)) (σ : Sg) (s : Shared) (Q : Bool → Shared → Prop) (E : Value → Shared → Prop),
    Inv c fr tb env vs αs σ s.heap → Gk sc env → okL c.T sc tb xs = true → evB c.T Fo vs op xs σ ≠ .stuck →
    (∀ b σ', evB c.T Fo vs op xs σ = .ok (.d (.bool b)) σ' → ∀ αs' h' tk, Inv c fr tb env vs αs' σ' h' → Nx c fr αs σ s.heap αs' σ' h' → Q b { s with heap := h', toks := tk }) →
    HX c lf fr αs σ s (evB c.T Fo vs op xs σ) E →
    wpAny (model c.prog c.w) c.A (allTrue op (xlE c.T tb xs) env) Q E s
theorem evB_bool {T : Tab} {op : BoolOp} : ∀ {xs : XL} {σ : Sg} {V : V} {σ' : Sg}, evB T Fo vs op xs σ = .ok V σ' → ∃ b, V = .d (.bool b)
  | .nil, σ, V, σ', e => by simp [q_evB_0] at e
  | .cons x .nil, σ, V, σ', e => by
    simp only [q_evB_1] at e
    cases h : ev T Fo vs x σ with
    | stuck => rw [h] at e; cases e
    | ex => rw [h] at e; cases e
    | ok a τ =>
      rw [h] at e
      simp only [Out.bind] at e
      split at e
      · cases e; exact ⟨_, rfl⟩
      · cases e
  | .cons x (.cons y r), σ, V, σ', e => by
    simp only [q_evB_2] at e
    cases h : ev T Fo vs x σ with
    | stuck => rw [h] at e; cases e
    | ex => rw [h] at e; cases e
    | ok a τ =>
      rw [h] at e
      simp only [Out.bind] at e
      split at e
      · cases e; exact ⟨_, rfl⟩
      · cases e; exact ⟨_, rfl⟩
      · exact evB_bool (xs := .cons y r) e
      · exact evB_bool (xs := .cons y r) e
      · cases e
theorem sound_B_nil (op : BoolOp) : SoundB n lf Fo op .nil := by
  intro c C fr sc tb env vs αs σ s p Q E I G ok hn hq hx
  exact absurd (by simp only [q_evB_0]) hn
theorem sound_TB_nil (op : BoolOp) : SoundTB n lf Fo op .nil := by
  intro c C fr sc tb env vs αs σ s Q E I G ok hn hq hx
  exact absurd (by simp only [q_evB_0]) hn
theorem sound_B_cons {op : BoolOp} {x : X} {xs : XL} (H : SoundX n lf Fo x) (H' : SoundB n lf Fo op xs) : SoundB n lf Fo op (.cons x xs) := by
  intro c C fr sc tb env vs αs σ s p Q E I G ok hn hq hx
  simp only [q_okL_1, Bool.and_eq_true] at ok
  cases xs with
  | nil =>
    simp only [q_evB_1] at hn hq hx
    simp only [q_xlE_0, q_xlE_1]
    refine H.run C I G ok.1 rfl hn hx (fun V σ₁ v αs₁ h₁ t₁ hr I₁ N₁ R₁ _ => ?_)
    rw [hr] at hn hq
    split at hn
    · obtain rfl := Rd.bool R₁
      exact hq _ _ rfl αs₁ h₁ t₁ I₁ N₁
    · exact absurd rfl hn
  | cons y r =>
    simp only [q_evB_2] at hn hq hx
    have hshape : boolOp p op (evalEach (xlE c.T tb (.cons x (.cons y r))) env) = (do
      let v ← eval (xE c.T tb x) env
      standAt p
      let t ← holding [v] (truthy v)
      match op, t with
      | .And, false | .Or, true => pure v
      | _, _ => boolOp p op (evalEach (xlE c.T tb (.cons y r)) env)) := by simp only [q_xlE_1]; rfl
    rw [hshape]
    refine wpAny_bind (H.run C I G ok.1 rfl hn hx (fun V σ₁ v αs₁ h₁ t₁ hr I₁ N₁ R₁ hx₁ => ?_))
    rw [hr] at hn hq hx₁
    have hb : ∃ b, V = .d (.bool b) := by
      split at hn
      · exact ⟨_, rfl⟩
      · exact ⟨_, rfl⟩
      · exact ⟨_, rfl⟩
      · exact ⟨_, rfl⟩
      · exact absurd rfl hn
    obtain ⟨b, rfl⟩ := hb
    obtain rfl := Rd.bool R₁
    refine wpAny_bind (wpAny_standAt (wpAny_bind (wpAny_holding (wpAny_truthy_bool ?_))))
    cases op <;> cases b
    · exact wpAny_pure (hq _ _ rfl αs₁ h₁ t₁ I₁ N₁)
    · exact H' c C fr sc tb env vs αs₁ σ₁ _ p Q E I₁ G ok.2 hn (fun b σ' e αs' h' tk I' N' => hq b σ' e αs' h' tk I' (N₁.trans N')) hx₁
    · exact H' c C fr sc tb env vs αs₁ σ₁ _ p Q E I₁ G ok.2 hn (fun b σ' e αs' h' tk I' N' => hq b σ' e αs' h' tk I' (N₁.trans N')) hx₁
    · exact wpAny_pure (hq _ _ rfl αs₁ h₁ t₁ I₁ N₁)
theorem sound_TB_cons {op : BoolOp} {x : X} {xs : XL} (H : SoundT n lf Fo x) (H' : SoundTB n lf Fo op xs) : SoundTB n lf Fo op (.cons x xs) := by
  intro c C fr sc tb env vs αs σ s Q E I G ok hn hq hx
  simp only [q_okL_1, Bool.and_eq_true] at ok
  cases xs with
  | nil =>
    simp only [q_evB_1] at hn hq hx
    simp only [q_xlE_0, q_xlE_1]
    rw [arm_allTrue_cons]
    refine wpAny_bind (H.run C I G ok.1 rfl hn (fun V σ h => ?_) hx (fun b σ₁ αs₁ h₁ t₁ hr I₁ N₁ _ => ?_))
    · split at h
      · exact ⟨_, rfl⟩
      · exact absurd rfl h
    · rw [hr] at hq
      have q := hq _ _ rfl αs₁ h₁ t₁ I₁ N₁
      cases op <;> cases b <;> exact wpAny_pure q
  | cons y r =>
    simp only [q_evB_2] at hn hq hx
    have hshape : allTrue op (xlE c.T tb (.cons x (.cons y r))) env = (do
      match op, ← isTrue (xE c.T tb x) env (eval (xE c.T tb x) env) with
      | .And, false => pure false
      | .Or, true => pure true
      | _, _ => allTrue op (xlE c.T tb (.cons y r)) env) := by simp only [q_xlE_1]; rfl
    rw [hshape]
    refine wpAny_bind (H.run C I G ok.1 rfl hn (fun V σ h => ?_) hx (fun b σ₁ αs₁ h₁ t₁ hr I₁ N₁ hx₁ => ?_))
    · split at h
      · exact ⟨_, rfl⟩
      · exact ⟨_, rfl⟩
      · exact ⟨_, rfl⟩
      · exact ⟨_, rfl⟩
      · exact absurd rfl h
    · rw [hr] at hn hq hx₁
      cases op <;> cases b
      · exact wpAny_pure (hq _ _ rfl αs₁ h₁ t₁ I₁ N₁)
      · exact H' c C fr sc tb env vs αs₁ σ₁ _ Q E I₁ G ok.2 hn (fun b σ' e αs' h' tk I' N' => hq b σ' e αs' h' tk I' (N₁.trans N')) hx₁
      · exact H' c C fr sc tb env vs αs₁ σ₁ _ Q E I₁ G ok.2 hn (fun b σ' e αs' h' tk I' N' => hq b σ' e αs' h' tk I' (N₁.trans N')) hx₁
      · exact wpAny_pure (hq _ _ rfl αs₁ h₁ t₁ I₁ N₁)
theorem sound_bop {op : BoolOp} {xs : XL} (H : SoundB n lf Fo op xs) (p : Pos) : SoundX n lf Fo (.bop op xs p) := by
  intro c C fr sc tb env vs αs σ s Q E I G ok hn hq hx
  simp only [q_okX_14] at ok
  simp only [q_ev_13] at hn hq hx
  simp only [q_xE_14]
  rw [arm_eval_BoolOp]
  exact H c C fr sc tb env vs αs σ s p Q E I G ok hn (fun b σ' e αs' h' tk I' N' => hq _ σ' e _ αs' h' tk I' N' (rd_bool b)) hx
theorem truth_bop {op : BoolOp} {xs : XL} (H : SoundTB n lf Fo op xs) (p : Pos) : SoundT n lf Fo (.bop op xs p) := by
  intro c C fr sc tb env vs αs σ s Q E I G ok hn hq hx
  simp only [q_okX_14] at ok
  simp only [q_ev_13] at hn hq hx
  simp only [q_xE_14]
  refine wpAny_isTrue_BoolOp (H c C fr sc tb env vs αs σ s Q E I G ok hn (fun b σ' e αs' h' tk I' N' => ?_) hx)
  obtain ⟨b', e1, q⟩ := hq _ σ' e
  cases e1
  exact q αs' h' tk I' N'
theorem bin_core {x y : X} (H : SoundX n lf Fo x) (H' : SoundX n lf Fo y) (C : Cok n lf c) (I : Inv c fr tb env vs αs σ s.heap) (G : Gk sc env) (ok : okX c.T sc tb x = true) (ok' : okX c.T sc tb y = true)
    {g : V → V → Sg → Out V} (f : Value → Value → Sem Value) {Q : Value → Shared → Prop} {E : Value → Shared → Prop} {r : Out V} (hr : r = (ev c.T Fo vs x σ).bind fun v σ => (ev c.T Fo vs y σ).bind fun w σ => g v w σ) (hn : r ≠ .stuck)
    (hx : HX c lf fr αs σ s r E)
    (hg : ∀ V W σ₁ v w αs₁ h₁ t₁, r = g V W σ₁ → Inv c fr tb env vs αs₁ σ₁ h₁ → Nx c fr αs σ s.heap αs₁ σ₁ h₁ → VR (Fz (Wl c fr αs₁ σ₁) h₁) αs₁ v V → VR (Fz (Wl c fr αs₁ σ₁) h₁) αs₁ w W →
      HX c lf fr αs₁ σ₁ { s with heap := h₁, toks := t₁ } r E → wpAny (model c.prog c.w) c.A (f v w) Q E { s with heap := h₁, toks := t₁ }) :
    wpAny (model c.prog c.w) c.A (eval (xE c.T tb x) env) (fun a s₁ => wpAny (model c.prog c.w) c.A (eval (xE c.T tb y) env) (fun b s₂ => wpAny (model c.prog c.w) c.A (f a b) Q E s₂) E s₁) E s := by
  refine H.run C I G ok hr hn hx (fun V σ₁ v αs₁ h₁ t₁ hr₁ I₁ N₁ R₁ hx₁ => ?_)
  refine H'.run C I₁ G ok' hr₁ hn hx₁ (fun W σ₂ w αs₂ h₂ t₂ hr₂ I₂ N₂ R₂ hx₂ => ?_)
  exact hg V W σ₂ v w αs₂ h₂ t₂ hr₂ I₂ (N₁.trans N₂) (N₂.vr R₁) R₂ hx₂
end
section
variable {n : Nat} {lf : Addr} {Fo : Orc} {c : Cx} {fr : List Addr} {sc : Scope} {tb : List (Str × Nat)} {env : Env} {vs : Vs} {αs : List (Addr × Addr)} {σ : Sg} {s : Shared}
inductive SeqAt (z h : Heap) (v : Value) (x : PyData) (ds : List PyData) : Prop where
  | mk (a : Addr) (o : Obj) (ws : Array Value) (m : Nat) (e : v = .ref a) (h1 : h.get? a = some o) (h2 : (x = .list ds ∧ o.cls = .type "list") ∨ (x = .tuple ds ∧ o.cls = .type "tuple")) (h3 : o.data = .seq ws m) (h4 : RdA z ws.toList ds) : SeqAt z h v x ds
set_option tactic.hygienic true in
theorem rd_seq {h : Heap} (I : Inv c fr tb env vs αs σ h) {v : Value} {u : V} (R : VR (Fz (Wl c fr αs σ) h) αs v u) {x : PyData} {ds : List PyData} (e : rd σ u = some x) (hi : items? x = some ds) :
    SeqAt (Fz (Wl c fr αs σ) h) h v x ds := by
  cases u with
  | d y =>
    cases e
    cases x with
    | list es =>
      cases hi
      obtain ⟨a, o, ws, m, rfl, h1, h2, h3, h4⟩ := Rd.list R
      exact ⟨a, o, ws, m, rfl, Inv.z_in _ _ h1, .inl ⟨rfl, h2⟩, h3, h4⟩
    | tuple es =>
      cases hi
      obtain ⟨a, o, ws, m, rfl, h1, h2, h3, h4⟩ := Rd.tuple R
      exact ⟨a, o, ws, m, rfl, Inv.z_in _ _ h1, .inr ⟨rfl, h2⟩, h3, h4⟩
    | _ => cases hi
  | o k =>
    obtain ⟨p, hp, rfl⟩ := R
    simp only [rd] at e
    split at e
    · rename_i fz es hc
      cases e
      cases hi
      obtain ⟨ws, ⟨m, hv⟩, r⟩ := I.st.cell k p _ hp hc
      exact ⟨p.1, _, ws, m, rfl, hv, .inl ⟨rfl, rfl⟩, rfl, r⟩
    · cases e
theorem strOk_append {x y : Str} (hx : (PyData.str x).canLay0 = true) (hy : (PyData.str y).canLay0 = true) : (PyData.str (x ++ y)).canLay0 = true := by
  simp only [PyData.canLay0, PyData.strOk] at hx hy ⊢
  show (x.cps ++ y.cps).all (· < 0x110000) = true
  rw [Array.all_append, hx, hy]; rfl
theorem foldl_toList (l : List (Array Value)) : ∀ init : Array Value, (List.foldl (fun x1 x2 => x1 ++ x2) init l).toList = init.toList ++ (l.map Array.toList).flatten := by
  induction l with
  | nil => intro init; simp
  | cons a r ih => intro init; rw [List.foldl_cons, ih, List.map_cons, List.flatten_cons, Array.toList_append, List.append_assoc]
theorem RdA.rep {z : Heap} {vs : List Value} {xs : List PyData} (r : RdA z vs xs) : ∀ m : Nat, RdA z (List.replicate m vs).flatten (List.replicate m xs).flatten
  | 0 => .nil
  | m + 1 => by rw [List.replicate_succ, List.replicate_succ, List.flatten_cons, List.flatten_cons]; exact r.append (r.rep m)
theorem size_of {z : Heap} {ws : Array Value} {ds : List PyData} (r : RdA z ws.toList ds) : ws.size = ds.length := by rw [← r.length]; simp
noncomputable def BinOK (c : Cx) (fr : List Addr) (tb : List (Str × Nat)) (env : Env) (vs : Vs) (αs : List (Addr × Addr)) (σ : Sg) (s : Shared) (op : Operator) (v w : Value) (r : PyData) : Prop :=
  ∀ (Q : Value → Shared → Prop) (E : Value → Shared → Prop), (∀ u h' tk, Inv c fr tb env vs αs σ h' → Nx c fr αs σ s.heap αs σ h' → Rd (Fz (Wl c fr αs σ) h') u r → Q u { s with heap := h', toks := tk }) → wpAny (model c.prog c.w) c.A (binaryOp op v w) Q E s
section
variable (I : Inv c fr tb env vs αs σ s.heap) {v w : Value} {V W : Mine.V} (R : VR (Fz (Wl c fr αs σ) s.heap) αs v V) (R' : VR (Fz (Wl c fr αs σ) s.heap) αs w W)
include I
omit I in
theorem b_ints {op : Operator} {i j : Int} {r : PyData} (rx : Rd s.heap v (.int i)) (ry : Rd s.heap w (.int j)) (h : ∀ t t', BinOK c fr tb env vs αs σ s op (.int i t) (.int j t') r) : BinOK c fr tb env vs αs σ s op v w r := by
  obtain ⟨t, rfl⟩ := Rd.int rx; obtain ⟨t', rfl⟩ := Rd.int ry
  exact h t t'
theorem b_addS {a b : Str} (rx : Rd s.heap v (.str a)) (ry : Rd s.heap w (.str b)) (h : (decide (a.length + b.length ≤ 1000)) = true) : BinOK c fr tb env vs αs σ s .Add v w (.str (a ++ b)) := by
  have lx := rx.2; have ly := ry.2
  obtain ⟨t, rfl⟩ := Rd.str rx; obtain ⟨t, rfl⟩ := Rd.str ry
  have h := of_decide_eq_true h
  exact fun Q E hq => add_str (fun t' tk => hq _ _ _ I .refl (rd_str _ (strOk_append lx ly))) (by rw [sizeLine_eq]; omega)
include R R'
theorem addL_core {a b : List PyData} (ex : rd σ V = some (.list a)) (ey : rd σ W = some (.list b)) (h : (decide (a.length + b.length ≤ 100000)) = true) : ∃ ws : Array Value, RdA (Fz (Wl c fr αs σ) s.heap) ws.toList (a ++ b) ∧
    ∀ (Q : Value → Shared → Prop) (E : Value → Shared → Prop), Q (.ref s.heap.objs.size) { s with heap := s.heap.push { cls := .type "list", data := .seq ws } } → wpAny (model c.prog c.w) c.A (binaryOp .Add v w) Q E s := by
  obtain ⟨l, ⟨cls, dd, data, sl⟩, ws, m, rfl, ho, hc, hd, r1⟩ := rd_seq I R ex rfl
  obtain ⟨l2, ⟨cls2, dd2, data2, sl2⟩, ws2, m2, rfl, ho2, hc2, hd2, r2⟩ := rd_seq I R' ey rfl
  simp only [reduceCtorEq, false_and, or_false, true_and] at hc hc2
  simp only at hd hd2
  subst hc hd hc2 hd2
  have h := of_decide_eq_true h
  have q1 := size_of r1
  have q2 := size_of r2
  exact ⟨ws ++ ws2, by rw [Array.toList_append]; exact r1.append r2, fun Q E hq => concat_meets ⟨_, ho, rfl⟩ ⟨_, ho2, rfl⟩ noFill_list_add seq_list_add PySem.F.slot_list_add PySem.F.entry_list_add (PySem.F.args_list_add_2 _ _) (list_addW l l2 ws ws2 m m2 dd dd2 sl sl2 (by rw [q1, q2, sizeLine_eq]; omega)) ⟨ho, ho2, hq⟩⟩
theorem b_addL {a b : List PyData} (ex : rd σ V = some (.list a)) (ey : rd σ W = some (.list b)) (h : (decide (a.length + b.length ≤ 100000)) = true) : BinOK c fr tb env vs αs σ s .Add v w (.list (a ++ b)) :=
  (addL_core I R R' ex ey h).elim fun ws g Q E hq => g.2 Q E (by
    obtain ⟨I₂, N₂, g'⟩ := push_in I (o := { cls := .type "list", data := .seq ws }) rfl
    exact hq _ _ _ I₂ N₂ (rd_list g' rfl rfl (N₂.rda g.1)))
omit I R' in
theorem rd_tup {a : List PyData} (e : rd σ V = some (.tuple a)) : Rd (Fz (Wl c fr αs σ) s.heap) v (.tuple a) := by
  cases V with
  | d y => cases e; exact R
  | o k =>
    simp only [rd] at e
    split at e <;> cases e
omit I R R' in
theorem nil_of {z : Heap} {ws : Array Value} {a : List PyData} (r : RdA z ws.toList a) (h0 : ws.isEmpty = true) : a = [] := by
  have := size_of r
  rw [Array.isEmpty_iff_size_eq_zero] at h0
  exact List.eq_nil_of_length_eq_zero (this.symm.trans h0)
theorem b_addT {a b : List PyData} (ex : rd σ V = some (.tuple a)) (ey : rd σ W = some (.tuple b)) (h : (decide (a.length + b.length ≤ 100000)) = true) : BinOK c fr tb env vs αs σ s .Add v w (.tuple (a ++ b)) := by
  have t1 := rd_tup R ex
  have t2 := rd_tup R' ey
  obtain ⟨l, ⟨cls, dd, data, sl⟩, ws, m, rfl, ho, hc, hd, r1⟩ := rd_seq I R ex rfl
  obtain ⟨l2, ⟨cls2, dd2, data2, sl2⟩, ws2, m2, rfl, ho2, hc2, hd2, r2⟩ := rd_seq I R' ey rfl
  simp only [reduceCtorEq, false_and, false_or, true_and] at hc hc2
  simp only at hd hd2
  subst hc hd hc2 hd2
  have h := of_decide_eq_true h
  have q1 := size_of r1
  have q2 := size_of r2
  intro Q E hq
  by_cases h0 : ws.isEmpty = true
  · refine concat_meets ⟨_, ho, rfl⟩ ⟨_, ho2, rfl⟩ noFill_tuple_add seq_tuple_add PySem.F.slot_tuple_add PySem.F.entry_tuple_add (PySem.F.args_tuple_add_2 _ _) (tuple_addW0 l l2 ws ws2 m m2 dd dd2 sl sl2 h0) ⟨ho, ho2, ?_⟩
    rw [nil_of r1 h0] at hq
    exact hq _ _ _ I .refl t2
  · by_cases h1 : ws2.isEmpty = true
    · refine concat_meets ⟨_, ho, rfl⟩ ⟨_, ho2, rfl⟩ noFill_tuple_add seq_tuple_add PySem.F.slot_tuple_add PySem.F.entry_tuple_add (PySem.F.args_tuple_add_2 _ _) (tuple_addW1 l l2 ws ws2 m m2 dd dd2 sl sl2 h0 h1) ⟨ho, ho2, ?_⟩
      rw [nil_of r2 h1, List.append_nil] at hq
      exact hq _ _ _ I .refl t1
    · refine concat_meets ⟨_, ho, rfl⟩ ⟨_, ho2, rfl⟩ noFill_tuple_add seq_tuple_add PySem.F.slot_tuple_add PySem.F.entry_tuple_add (PySem.F.args_tuple_add_2 _ _) (tuple_addW2 l l2 ws ws2 m m2 dd dd2 sl sl2 h0 h1 (by rw [q1, q2, sizeLine_eq]; omega)) ⟨ho, ho2, ?_⟩
      obtain ⟨I₂, N₂, g⟩ := push_in I (o := { cls := .type "tuple", data := .seq (ws ++ ws2) }) rfl
      exact hq _ _ _ I₂ N₂ (rd_tuple g rfl rfl (by rw [Array.toList_append]; exact (N₂.rda r1).append (N₂.rda r2)))
omit R' in
theorem b_mulL {a : List PyData} {j : Int} (ex : rd σ V = some (.list a)) (ry : Rd s.heap w (.int j)) (h : (a.length ≤ 1 && decide (0 ≤ j) && decide (j ≤ 1000)) = true) : BinOK c fr tb env vs αs σ s .Mult v w (.list (List.flatten (List.replicate j.toNat a))) := by
  simp only [Bool.and_eq_true, decide_eq_true_eq] at h
  obtain ⟨l, ⟨cls, dd, data, sl⟩, ws, m, rfl, ho, hc, hd, r1⟩ := rd_seq I R ex rfl
  obtain ⟨t, rfl⟩ := Rd.int ry
  simp only [reduceCtorEq, false_and, or_false, true_and] at hc
  simp only at hd
  subst hc hd
  have q1 := size_of r1
  have h1 : ws.size ≤ 1 := by omega
  have h2 : j.toNat ≤ 1000 := by omega
  have hsz : ws.size * j.toNat ≤ 1000 := Nat.le_trans (Nat.mul_le_mul h1 h2) (by decide)
  intro Q E hq
  refine wpAny_binaryOp_repeat_ref (T := "list") (U := "int") (by decide) ⟨_, ho, rfl⟩ (fun s' => typeIs_int s' j t) noFill_list_mul F.fills_int_mul F.slot_int_rmul repeat_list F.slot_int_index.lookup
    (call_meets F.slot_int_rmul (typeIs_int s j t) F.entry_int_rmul (F.args_int_rmul_2 _ _) (lm_int_rmul_list_any j t l ws m dd sl)
      ⟨ho, rfl, ⟨_, ho, rfl⟩, call_meets F.slot_list_mul ⟨_, ho, rfl⟩ F.entry_list_mul (F.args_list_mul_2 _ _)
      (lm_list_mul_any l ws m dd sl j t (by simp [Builtin.List.listFitsIndex]; omega) (by omega) (by simp [Builtin.List.listTooLong, sizeLine]; omega))
      ⟨ho, ?_⟩⟩)
  obtain ⟨I₂, N₂, g⟩ := push_in I (o := { cls := .type "list", data := .seq (List.foldl (fun x1 x2 => x1 ++ x2) #[] (List.replicate (if ws.isEmpty = true then 0 else j.toNat) ws)) }) rfl
  refine hq _ _ _ I₂ N₂ (rd_list g rfl rfl ?_)
  rw [foldl_toList, List.map_replicate]
  show RdA _ (List.nil ++ _) _
  rw [List.nil_append]
  by_cases h0 : ws.isEmpty = true
  · rw [if_pos h0, nil_of r1 h0]
    simpa using RdA.nil
  · have q := (N₂.rda r1).rep j.toNat
    simp only [if_neg h0] at q ⊢
    exact q
theorem bin_all {op : Operator} {x y r : PyData} (ex : rd σ V = some x) (ey : rd σ W = some y) (B : BinC op x y r) : BinOK c fr tb env vs αs σ s op v w r := by
  have rx := rd_ok I R ex
  have ry := rd_ok I R' ey
  cases B with
  | addI i j => exact b_ints rx ry fun t t' Q E hq => P.add_int (hq _ _ _ I .refl (rd_int _ _))
  | addS h => exact b_addS I rx ry h
  | addL h => exact b_addL I R R' ex ey h
  | addT h => exact b_addT I R R' ex ey h
  | mulI j h => exact b_ints rx ry fun t t' Q E hq => P.mul_int (hq _ _ _ I .refl (rd_int _ _)) (IntMulOk.of_left (intBits_le_64 (by simp only [decide_eq_true_eq] at h; omega) (by simp only [decide_eq_true_eq] at h; omega)))
  | mulL h => exact b_mulL I R ex ry h
  | mod i h => exact b_ints rx ry fun t t' Q E hq => mod_int' (by simp only [decide_eq_true_eq] at h; omega) (hq _ _ _ I .refl (rd_int _ _))
  | fdiv i h =>
    simp only [Bool.and_eq_true, decide_eq_true_eq] at h
    exact b_ints rx ry fun t t' Q E hq => floordiv_int (by omega) (hq _ _ _ I .refl (rd_int _ _)) (.inl (PyProof.noPylong_small (by omega)))
  | pow h =>
    simp only [Bool.and_eq_true, decide_eq_true_eq] at h
    exact b_ints rx ry fun t t' Q E hq => pow_int_small (by omega) (by omega) (by omega) (hq _ _ _ I .refl (rd_int _ _))
end
set_option tactic.hygienic true in
theorem bin_data (I : Inv c fr tb env vs αs σ s.heap) {op : Operator} {v w : Value} {V W : Mine.V} {x y r : PyData} (R : VR (Fz (Wl c fr αs σ) s.heap) αs v V) (R' : VR (Fz (Wl c fr αs σ) s.heap) αs w W)
    (ex : rd σ V = some x) (ey : rd σ W = some y) (e : binop op x y = some r) {Q : Value → Shared → Prop} {E : Value → Shared → Prop}
    (hq : ∀ u h' tk, Inv c fr tb env vs αs σ h' → Nx c fr αs σ s.heap αs σ h' → Rd (Fz (Wl c fr αs σ) h') u r → Q u { s with heap := h', toks := tk }) :
    wpAny (model c.prog c.w) c.A (binaryOp op v w) Q E s := bin_all I R R' ex ey (binC e) Q E hq
theorem lift_ok {σ σ' : Sg} {o : Option PyData} {V : Mine.V} (e : lift σ o = .ok V σ') : ∃ x, o = some x ∧ V = .d x ∧ σ' = σ := by
  cases o with
  | none => cases e
  | some x => cases e; exact ⟨x, rfl, rfl, rfl⟩
theorem lift_ne {σ : Sg} {o : Option PyData} (e : lift σ o ≠ .stuck) : ∃ x, o = some x := by
  cases o with
  | none => exact absurd rfl e
  | some x => exact ⟨x, rfl⟩
theorem sound_bin {op : Operator} {x y : X} (H : SoundX n lf Fo x) (H' : SoundX n lf Fo y) (p : Pos) : SoundX n lf Fo (.bin op x y p) := by
  intro c C fr sc tb env vs αs σ s Q E I G ok hn hq hx
  simp only [q_okX_17, Bool.and_eq_true] at ok
  simp only [q_ev_16] at hn hq hx
  simp only [q_xE_17]
  refine wpAny_BinOp (bin_core H H' C I G ok.1 ok.2 (binaryOp op) rfl hn hx (fun V W σ₁ v w αs₁ h₁ t₁ hr I₁ N₁ R₁ R₂ _ => ?_))
  rw [hr] at hn hq
  obtain ⟨z, hz⟩ := lift_ne hn
  rw [hz] at hq
  rw [Option.bind_eq_some_iff] at hz
  obtain ⟨x', e1, hz⟩ := hz
  rw [Option.bind_eq_some_iff] at hz
  obtain ⟨y', e2, hz⟩ := hz
  exact bin_data (s := { s with heap := h₁, toks := t₁ }) I₁ R₁ R₂ e1 e2 hz (fun u h' tk I' N' R' => hq _ _ rfl u αs₁ h' tk I' (N₁.trans N') R')
end
section
variable {prog : Program} {w : World} {A : Around} {E : Value → Shared → Prop} {s : Shared}
theorem slicePart_of {v : Value} {k : Option Int} (p : IsPart v k) {Q : Option Int → Shared → Prop} (h : Q k s) : wpAny (model prog w) A (Builtin.Slice.slicePartIndex v) Q E s := by
  cases p with
  | none => exact slicePart_none h
  | int i t => exact slicePart_int h
theorem adjust_gen (lo hi : Option Int) (n : Nat) : Builtin.Slice.sliceAdjust lo hi 1 (n : Int) = (((lo.elim 0 (clipAt n) : Nat) : Int), ((hi.elim n (clipAt n) : Nat) : Int)) := by
  have key : ∀ i : Int, (if i < 0 then max (i + n) 0 else min i (n : Int)) = ((clipAt n i : Nat) : Int) := by
    intro i
    rw [clipAt_cast]
    split <;> omega
  unfold Builtin.Slice.sliceAdjust
  have h1 : ¬ ((1 : Int) < 0) := by omega
  simp only [h1, if_false]
  cases lo <;> cases hi <;> simp [key]
theorem places_gen (a b : Nat) : Builtin.Slice.slicePlaces (a : Int) (b : Int) 1 = b - a := by
  rcases Nat.le_total a b with h | h
  · exact places_from a b h
  · show (if (1 : Int) > 0 then (if (a : Int) < b then ((b : Int) - a - 1) / 1 + 1 else 0) else _ : Int).toNat = _
    rw [if_pos (by decide), if_neg (Int.not_lt.mpr (Int.ofNat_le.mpr h)), Nat.sub_eq_zero_of_le h]; rfl
theorem pick_gen (xs : Array Value) (a m : Nat) : ((List.range m).filterMap fun (k : Nat) => xs[((a : Int) + (k : Int) * 1).toNat]?).toArray = ((xs.toList.drop a).take m).toArray := by
  refine congrArg List.toArray (Eq.trans ?_ (pick_run xs a m))
  rw [List.filterMap_map]
  refine congrArg (fun f => (List.range m).filterMap f) (funext fun k => congrArg (xs[·]?) ?_)
  rw [Int.mul_one]; exact Int.toNat_natCast (a + k)
theorem sliceApplied_gen {sl : Addr} {vl vu : Value} {lo hi : Option Int} {n : Nat} {Q : Int × Int × Nat → Shared → Prop} (hs : s.heap.IsSliceOf sl vl vu .none) (pl : IsPart vl lo) (pu : IsPart vu hi)
    (h : Q (((lo.elim 0 (clipAt n) : Nat) : Int), 1, hi.elim n (clipAt n) - lo.elim 0 (clipAt n)) s) :
    wpAny (model prog w) A (Builtin.Slice.sliceApplied (.ref sl) (pure (n : Int))) Q E s := by
  obtain ⟨os, hos, hcs, hds⟩ := id hs
  unfold Builtin.Slice.sliceApplied Builtin.Slice.sliceFields
  refine wpAny_bind (wpAny_bind (wpAny_field hos hds (x := vl) rfl (wpAny_bind (wpAny_field hos hds (x := vu) rfl (wpAny_bind (wpAny_field hos hds (x := .none) rfl (wpAny_pure ?_)))))))
  refine wpAny_bind (slicePart_none ?_)
  show wpAny _ _ (if ((1 : Int) == 0) = true then _ else _) _ _ s
  rw [if_neg (by decide)]
  refine wpAny_bind (slicePart_of pl (wpAny_bind (slicePart_of pu (wpAny_bind (wpAny_pure ?_)))))
  show wpAny _ _ (match Builtin.Slice.sliceAdjust lo hi 1 (n : Int) with | (lo, hi) => pure (lo, (1 : Int), Builtin.Slice.slicePlaces lo hi 1)) _ _ s
  rw [adjust_gen lo hi n]
  show wpAny _ _ (pure (((lo.elim 0 (clipAt n) : Nat) : Int), (1 : Int), Builtin.Slice.slicePlaces ((lo.elim 0 (clipAt n) : Nat) : Int) ((hi.elim n (clipAt n) : Nat) : Int) 1)) _ _ s
  rw [places_gen]
  exact wpAny_pure h
theorem getItem_tuple_cut {t sl : Addr} {items : Array Value} {vl vu : Value} {lo hi : Option Int} {Q : Value → Shared → Prop} (ht : IsTup s.heap t items) (hs : s.heap.IsSliceOf sl vl vu .none) (pl : IsPart vl lo) (pu : IsPart vu hi)
    (h0 : (items.toList.drop (lo.elim 0 (clipAt items.size))).take (hi.elim items.size (clipAt items.size) - lo.elim 0 (clipAt items.size)) = items.toList → Q (.ref t) s)
    (h : Q (.ref s.heap.objs.size) { s with heap := s.heap.push { cls := .type "tuple", data := .seq ((items.toList.drop (lo.elim 0 (clipAt items.size))).take (hi.elim items.size (clipAt items.size) - lo.elim 0 (clipAt items.size))).toArray } })
    (hsz : items.size ≤ sizeLine) : wpAny (model prog w) A (getItem (.ref t) (.ref sl)) Q E s := by
  have hdrop : sizeOk (.seq ((items.toList.drop (lo.elim 0 (clipAt items.size))).take (hi.elim items.size (clipAt items.size) - lo.elim 0 (clipAt items.size))).toArray) := by
    show ((items.toList.drop _).take _).toArray.size ≤ sizeLine
    rw [List.size_toArray, List.length_take, List.length_drop, Array.length_toList]
    omega
  obtain ⟨os, hos, hcs, hds⟩ := id hs
  have hTs : s.TypeIs (.ref sl) "slice" := ⟨os, hos, hcs⟩
  unfold getItem
  try with_reducible refine wpAny_holding ?_
  first | refine wpAny_bind (wpAny_pure ?_) | skip
  refine wpAny_bind (wpAny_sequenceKey ht.typeIs (by decide) ?_)
  refine wpAny_bind (wpAny_callSpecial?_slot (name := Str.ofString "__getitem__") ht.typeIs slot_tuple_getitem
    (wpAny_call_entry slot_tuple_getitem ht.typeIs entry_tuple_getitem ?_ (args_tuple_getitem _ _)))
  show wpAny _ _ (Builtin.Tuple.tupleItemsOf (.ref t) >>= _) _ _ s
  refine wpAny_bind (tupleItemsOf_ ht ?_)
  refine wpAny_bind (wpAny_typeOf hTs ?_)
  rw [if_pos (by decide)]
  refine wpAny_bind (sliceApplied_gen hs pl pu ?_)
  generalize hA : lo.elim 0 (clipAt items.size) = a at h0 h hdrop ⊢
  generalize hM : hi.elim items.size (clipAt items.size) - a = m at h0 h hdrop ⊢
  show wpAny _ _ (if ((a : Int) == 0 && (1 : Int) == 1 && m == items.size) = true then _ else _) _ _ s
  by_cases hw : ((a : Int) == 0 && (1 : Int) == 1 && m == items.size) = true
  · rw [if_pos hw]
    have hw' : a = 0 ∧ m = items.size := by
      simp only [Bool.and_eq_true, beq_iff_eq] at hw
      omega
    have q := h0 (by rw [hw'.1, hw'.2, List.drop_zero, List.take_of_length_le (by simp)])
    unfold Builtin.Tuple.tupleIsExact
    obtain ⟨o, ho, hc, _⟩ := id ht
    refine wpAny_bind (wpAny_bind (wpAny_typeOf ht.typeIs (wpAny_pure ?_)))
    rw [if_pos (by decide)]
    first
      | exact wpAny_bind (wpAny_rule (wpAny_bind (wpAny_pure (wpAny_pure ⟨_, rfl, wpAny_pure q⟩))))
      | exact wpAny_bind (wpAny_rule (wpAny_bind (wpAny_pure ⟨_, rfl, wpAny_pure q⟩)))
      | exact wpAny_bind (wpAny_rule (wpAny_pure ⟨_, rfl, wpAny_pure q⟩))
  · rw [if_neg hw, pick_gen items a m]
    first
      | exact wpAny_bind (m := Builtin.Tuple.tupleExact _) (wpAny_newObj_type (wpAny_pure ⟨_, rfl, wpAny_pure h⟩) hdrop)
      | exact wpAny_bind (m := Builtin.Tuple.tupleExact _) (wpAny_newObj_type (wpAny_bind (wpAny_pure (wpAny_pure ⟨_, rfl, wpAny_pure h⟩))) hdrop)
      | exact wpAny_bind (wpAny_bind (m := Builtin.Tuple.tupleExact _) (wpAny_newObj_type (wpAny_pure (wpAny_pure ⟨_, rfl, wpAny_pure h⟩)) hdrop))
      | exact wpAny_bind (wpAny_bind (m := Builtin.Tuple.tupleExact _) (wpAny_newObj_type (wpAny_pure ⟨_, rfl, wpAny_pure h⟩) hdrop))
end
section
variable {n : Nat} {lf : Addr} {Fo : Orc} {c : Cx} {fr : List Addr} {sc : Scope} {tb : List (Str × Nat)} {env : Env} {vs : Vs} {αs : List (Addr × Addr)} {σ : Sg} {s : Shared}
theorem DRel.look {z : Heap} {k : Str} : ∀ {kv : List (Str × Value)} {kd : List (Str × PyData)}, DRel z kv kd → (∀ x, look kd k = some x → ∃ v, valueAt kv k = some v ∧ Rd z v x) ∧ (look kd k = none → valueAt kv k = none)
  | _, _, .nil => ⟨fun x e => by simp [Mine.look] at e, fun _ => rfl⟩
  | _, _, .cons (k := k') (v := v) (x := x) r s => by
    have ih := DRel.look (k := k) s
    unfold Mine.look valueAt at *
    by_cases h : k' = k
    · simp only [List.find?_cons, h, decide_true, Option.map_some, Option.some.injEq]
      exact ⟨fun y e => ⟨v, rfl, e ▸ r⟩, fun e => by cases e⟩
    · simp only [List.find?_cons, h, decide_false]
      exact ih
theorem not_sys (C : Cok n lf c) (I : Inv c fr tb env vs αs σ s.heap) {k : Nat} {p : Addr × Addr} {cl : Cell} (hp : αs[k]? = some p) (hc : σ[k]? = some cl) : (p.1 == sysModules) = false := by
  rw [beq_eq_false_iff_ne]
  intro e
  have h1 := (I.st.ap2 k p cl hp hc p.1 (by cases cl <;> simp [adr])).2.2
  obtain ⟨o, ho⟩ := C.wd.sys
  rw [e, ho] at h1; cases h1
theorem str_key (prog : Program) (w : World) (k : Str) (t : Tok) : (strKind prog w).is k (.str k t) = true := by
  show Value.isStrOf k (.str k t) = true
  simp [Value.isStrOf]
noncomputable def CVal (c : Cx) (s : Shared) (σ : Sg) (op : CmpOp) (V W : Mine.V) (v w : Value) : Prop :=
  ∀ (Q : Value → Shared → Prop) (E : Value → Shared → Prop), (∀ b, cmpV op V W σ = .ok (.d (.bool b)) σ → ∀ tk, Q (.bool b) { s with toks := tk }) → wpAny (model c.prog c.w) c.A (compareOp op v w) Q E s
theorem cv_in (C : Cok n lf c) (I : Inv c fr tb env vs αs σ s.heap) {x : Str} {k : Nat} {v w : Value} (R : VR (Fz (Wl c fr αs σ) s.heap) αs v (.d (.str x))) (R' : VR (Fz (Wl c fr αs σ) s.heap) αs w (.o k)) (hn : cmpV .In (.d (.str x)) (.o k) σ ≠ .stuck) : CVal c s σ .In (.d (.str x)) (.o k) v w := by
  obtain ⟨p, hp, rfl⟩ := R'
  change inO x σ[k]? σ ≠ .stuck at hn
  have q : cmpV .In (.d (.str x)) (.o k) σ = inO x σ[k]? σ := rfl
  cases hc : σ[k]? with
  | none => rw [hc] at hn; exact absurd rfl hn
  | some cl =>
    rw [hc] at hn q
    cases cl with
    | ins _ _ => exact absurd rfl hn
    | dct kvs =>
      obtain ⟨t, rfl⟩ := Rd.str R
      obtain ⟨kv, hd, r⟩ := I.st.cell k p _ hp hc
      intro Q E hq
      refine wpAny_in_of (str_key _ _ x t) (not_sys C I hp hc) hd.mapOf ?_
      have e : (valueAt kv x).isSome = (look kvs x).isSome := by
        cases hl : look kvs x with
        | none => rw [r.look.2 hl]; rfl
        | some y => obtain ⟨v, e, _⟩ := r.look.1 y hl; rw [e]; rfl
      rw [e]
      exact hq _ q _
    | lst fz ds =>
      change lift σ ((cmpop .In (.str x) (.list ds)).map .bool) ≠ .stuck at hn
      obtain ⟨z, hz⟩ := lift_ne hn
      rw [Option.map_eq_some_iff] at hz
      obtain ⟨b, e3, rfl⟩ := hz
      have r2 : rd σ (.o k) = some (.list ds) := by
        show (match σ[k]? with | some (.lst _ ds) => some (PyData.list ds) | _ => none) = _
        rw [hc]
      have R₂ : VR (Fz (Wl c fr αs σ) s.heap) αs (.ref p.1) (.o k) := ⟨p, hp, rfl⟩
      exact fun Q E hq => cmp_data C (x := .str x) (y := .list ds) (rd_ok I R rfl) (rd_ok I R₂ r2) e3 (hq b (q.trans (by show lift σ ((cmpop .In (.str x) (.list ds)).map .bool) = _; rw [e3]; rfl)) s.toks)
theorem opt3 {α β γ δ : Type} {o : Option α} {o' : Option β} {f : α → β → Option γ} {g : γ → δ} {z : δ} (h : (o.bind fun x => o'.bind fun y => (f x y).map g) = some z) : ∃ x y b, o = some x ∧ o' = some y ∧ f x y = some b ∧ z = g b := by
  cases o with
  | none => exact nn h
  | some x =>
    cases o' with
    | none => exact nn h
    | some y =>
      change (f x y).map g = some z at h
      cases hf : f x y with
      | none => rw [hf] at h; exact nn h
      | some b => rw [hf] at h; cases h; exact ⟨x, y, b, rfl, rfl, hf, rfl⟩
theorem cv_all (C : Cok n lf c) (I : Inv c fr tb env vs αs σ s.heap) {op : CmpOp} {v w : Value} {V W : Mine.V} (R : VR (Fz (Wl c fr αs σ) s.heap) αs v V) (R' : VR (Fz (Wl c fr αs σ) s.heap) αs w W)
    (hn : cmpV op V W σ ≠ .stuck) : CVal c s σ op V W v w := by
  cases hd : inD op V W with
  | some p => exact inD_e (fun op V W => VR (Fz (Wl c fr αs σ) s.heap) αs v V → VR (Fz (Wl c fr αs σ) s.heap) αs w W → cmpV op V W σ ≠ .stuck → CVal c s σ op V W v w) hd (cv_in C I) R R' hn
  | none =>
    have q : cmpV op V W σ = lift σ ((rd σ V).bind fun x => (rd σ W).bind fun y => (cmpop op x y).map .bool) := by unfold cmpV; rw [hd]
    rw [q] at hn
    obtain ⟨z, hz⟩ := lift_ne hn
    rw [hz] at q
    obtain ⟨x', y', b, e1, e2, e3, rfl⟩ := opt3 hz
    exact fun Q E hq => cmp_data C (rd_ok I R e1) (rd_ok I R' e2) e3 (hq b q s.toks)
set_option tactic.hygienic true in
theorem cmp_val (C : Cok n lf c) (I : Inv c fr tb env vs αs σ s.heap) {op : CmpOp} {v w : Value} {V W : Mine.V} (R : VR (Fz (Wl c fr αs σ) s.heap) αs v V) (R' : VR (Fz (Wl c fr αs σ) s.heap) αs w W)
    (hn : cmpV op V W σ ≠ .stuck) {Q : Value → Shared → Prop} {E : Value → Shared → Prop}
    (hq : ∀ b, cmpV op V W σ = .ok (.d (.bool b)) σ → ∀ tk, Q (.bool b) { s with toks := tk }) :
    wpAny (model c.prog c.w) c.A (compareOp op v w) Q E s := cv_all C I R R' hn Q E hq
theorem no_marks {T : Tab} {op : CmpOp} {y : X} (ok : okX T sc tb y = true) : behindInMarks op (xE T tb y) = false := by
  cases y with
  | dead e => exact absurd ok (by rw [q_okX_20]; exact Bool.false_ne_true)
  | _ => kernel_rfl
theorem sound_cmp {op : CmpOp} {x y : X} (H : SoundX n lf Fo x) (H' : SoundX n lf Fo y) (p : Pos) : SoundX n lf Fo (.cmp op x y p) := by
  intro c C fr sc tb env vs αs σ s Q E I G ok hn hq hx
  simp only [q_okX_12, Bool.and_eq_true] at ok
  simp only [q_ev_12] at hn hq hx
  have hm := no_marks (op := op) ok.2
  simp only [q_xE_12]
  refine wpAny_Compare1 (bin_core H H' C I G ok.1 ok.2 (compareOp op) rfl hn hx (fun V W σ₁ v w αs₁ h₁ t₁ hr I₁ N₁ R₁ R₂ _ => ?_)) hm
  rw [hr] at hn hq
  exact cmp_val (s := { s with heap := h₁, toks := t₁ }) C I₁ R₁ R₂ hn (fun b e tk => hq _ _ e _ αs₁ h₁ tk I₁ N₁ (rd_bool b))
theorem cmpV_bool {op : CmpOp} {V W U : Mine.V} {σ σ' : Sg} (e : cmpV op V W σ = .ok U σ') : ∃ b, U = .d (.bool b) ∧ σ' = σ := by
  unfold cmpV at e
  cases hd : inD op V W with
  | some p =>
    rw [hd] at e
    change inO p.1 σ[p.2]? σ = _ at e
    cases hc : σ[p.2]? with
    | none => rw [hc] at e; cases e
    | some cl =>
      rw [hc] at e
      cases cl with
      | ins _ _ => cases e
      | dct kvs => cases e; exact ⟨_, rfl, rfl⟩
      | lst fz ds =>
        change lift σ ((cmpop .In (.str p.1) (.list ds)).map .bool) = _ at e
        obtain ⟨x, e1, e2, e3⟩ := lift_ok e
        rw [Option.map_eq_some_iff] at e1
        obtain ⟨b, _, rfl⟩ := e1
        exact ⟨b, e2, e3⟩
  | none =>
    rw [hd] at e
    obtain ⟨x, e1, e2, e3⟩ := lift_ok e
    obtain ⟨_, _, b, _, _, _, rfl⟩ := opt3 e1
    exact ⟨b, e2, e3⟩
theorem truth_cmp {op : CmpOp} {x y : X} (H : SoundX n lf Fo x) (H' : SoundX n lf Fo y) (p : Pos) : SoundT n lf Fo (.cmp op x y p) := by
  intro c C fr sc tb env vs αs σ s Q E I G ok hn hq hx
  simp only [q_okX_12, Bool.and_eq_true] at ok
  simp only [q_ev_12] at hn hq hx
  have hm := no_marks (op := op) ok.2
  simp only [q_xE_12]
  refine wpAny_isTrue_Compare1 (bin_core (Q := fun v s₁ => wpAny (model c.prog c.w) c.A (truthy v) Q E s₁) H H' C I G ok.1 ok.2 (compareOp op) rfl hn hx (fun V W σ₁ v w αs₁ h₁ t₁ hr I₁ N₁ R₁ R₂ _ => ?_)) hm
  rw [hr] at hn hq
  refine cmp_val (s := { s with heap := h₁, toks := t₁ }) C I₁ R₁ R₂ hn (fun b e tk => wpAny_truthy_bool ?_)
  obtain ⟨b', e1, q⟩ := hq _ _ e
  cases e1
  exact q αs₁ h₁ tk I₁ N₁
theorem sub_tail {value slice : PySem.Expr} {o i : Value} {T id : String} {ops : List Value} {Q : Value → Shared → Prop} {E : Value → Shared → Prop} (hT : s.TypeIs o T)
    (hl : typeLookup (.type T) "__getitem__" = pure (some (.builtin id))) (h : wpAny (model c.prog c.w) c.A (getItem o i) Q E s)
    (hs : subscripted slice false o i = operate ops (getItem o i)) :
    wpAny (model c.prog c.w) c.A (subscriptTail value slice o i) Q E s := by
  unfold subscriptTail
  refine wpAny_bind ?_
  rw [getitemInPython_of_ne hT.not_modules]
  refine wpAny_bind (wpAny_specialOf hT hl ?_)
  have fin : wpAny (model c.prog c.w) c.A (subscripted slice false o i) (fun r s₃ => wpAny (model c.prog c.w) c.A (letTemporaryGo value o r >>= fun _ => pure r) Q E s₃) E s := by
    rw [hs]
    exact wpAny_operating (wpAny_mono h (fun r s₃ h₃ => wpAny_bind (wpAny_letTemporaryGo (wpAny_pure h₃))) fun _ _ x => x)
  first
    | exact wpAny_pure (wpAny_bind fin)
    | exact wpAny_bind (wpAny_pure (wpAny_bind fin))
    | exact wpAny_bind fin
theorem seqIndex_bounds {n : Nat} {i : Int} {j : Nat} (h : n ≤ 100000) (e : seqIndex? i n = some j) : -(2 ^ 63 : Int) ≤ i ∧ i < 2 ^ 63 ∧ (0 ≤ i → j = i.toNat) ∧ (i < 0 → -(n : Int) ≤ i ∧ j = (i + n).toNat) := by
  unfold seqIndex? at e
  by_cases hi : i < 0
  · simp only [hi, if_true, Option.ite_none_right_eq_some, Bool.and_eq_true, decide_eq_true_eq, Option.some.injEq] at e
    omega
  · simp only [hi, if_false, Option.ite_none_right_eq_some, Bool.and_eq_true, decide_eq_true_eq, Option.some.injEq] at e
    omega
set_option tactic.hygienic true in
theorem sub_val (C : Cok n lf c) (I : Inv c fr tb env vs αs σ s.heap) {value slice : PySem.Expr} (hs : ∀ o i, subscripted slice false o i = operate [o, i] (getItem o i)) {v w : Value} {V W : Mine.V} (R : VR (Fz (Wl c fr αs σ) s.heap) αs v V) (R' : VR (Fz (Wl c fr αs σ) s.heap) αs w W)
    (hn : subV V W σ ≠ .stuck) {Q : Value → Shared → Prop} {E : Value → Shared → Prop}
    (hq : ∀ U, subV V W σ = .ok U σ → ∀ u tk, VR (Fz (Wl c fr αs σ) s.heap) αs u U → Q u { s with toks := tk }) :
    wpAny (model c.prog c.w) c.A (subscriptTail value slice v w) Q E s := by
  unfold subV at hn hq
  split at hn
  · rename_i k x
    obtain ⟨p, hp, rfl⟩ := R
    split at hn
    · rename_i kvs hc
      obtain ⟨y, hy⟩ := lift_ne hn
      obtain ⟨t, rfl⟩ := Rd.str R'
      obtain ⟨kv, hd, r⟩ := I.st.cell k p _ hp hc
      obtain ⟨v', e1, e2⟩ := r.look.1 y hy
      simp only [hc, hy] at hq
      exact sub_tail hd.typeIs slot_dict_getitem.lookup (wpAny_getItem_of (str_key _ _ x t) hd.mapOf e1 (hq _ rfl v' _ e2)) (hs _ _)
    · exact absurd rfl hn
  · exact absurd rfl hn
  · rename_i x i
    obtain ⟨y, hy⟩ := lift_ne hn
    simp only [hy] at hq
    rw [Option.bind_eq_some_iff] at hy
    obtain ⟨ds, hds, hy⟩ := hy
    rw [Option.bind_eq_some_iff] at hy
    obtain ⟨j, hj, hy⟩ := hy
    obtain ⟨a, o, ws, m, rfl, ho, hc, hd, r⟩ := rd_seq I R (show rd σ (.d x) = some x from rfl) hds
    obtain ⟨t, rfl⟩ := Rd.int R'
    unfold place at hj
    split at hj
    · rename_i hz
      simp only [decide_eq_true_eq] at hz
      obtain ⟨b1, b2, b3, b4⟩ := seqIndex_bounds hz hj
      obtain ⟨u, hu, ru⟩ := r.get hy
      have hu' : ws[j]? = some u := by simpa using hu
      have hsz := size_of r
      rcases hc with ⟨rfl, hc⟩ | ⟨rfl, hc⟩
      · have hl : s.heap.IsList a ws := ⟨o, ho, hc, m, hd⟩
        refine sub_tail hl.typeIs list_getitem_lookup ?_ (hs _ _)
        by_cases h0 : 0 ≤ i
        · exact wpAny_getItem_list hl h0 (by omega) (by rw [← b3 h0]; exact hu') (hq _ rfl u _ ru)
        · have := b4 (by omega)
          exact wpAny_getItem_list_neg hl (by omega) (by rw [hsz]; exact this.1) (by omega) (by rw [hsz, ← this.2]; exact hu') (hq _ rfl u _ ru)
      · have ht : IsTup s.heap a ws := ⟨o, ho, hc, m, hd⟩
        exact sub_tail ht.typeIs slot_tuple_getitem.lookup (getItem_tuple ht (by omega) (by omega) (by rw [hsz]; exact hj) hu' (hq _ rfl u _ ru)) (hs _ _)
    · cases hj
  · exact absurd rfl hn
theorem sound_sub {x y : X} (H : SoundX n lf Fo x) (H' : SoundX n lf Fo y) (p : Pos) : SoundX n lf Fo (.sub x y p) := by
  intro c C fr sc tb env vs αs σ s Q E I G ok hn hq hx
  simp only [q_okX_10, Bool.and_eq_true] at ok
  simp only [q_ev_10] at hn hq hx
  have hs : ∀ o i, subscripted (xE c.T tb y) false o i = operate [o, i] (getItem o i) := by
    have : ∀ e, y ≠ .dead e := by
      rintro e rfl
      simp [q_okX_20] at ok
    intro o i
    cases y with
    | dead e => exact absurd rfl (this e)
    | _ => simp only [q_xE_0, q_xE_1, q_xE_2, q_xE_3, q_xE_4, q_xE_5, q_xE_6, q_xE_7, q_xE_8, q_xE_9, q_xE_10, q_xE_11, q_xE_12, q_xE_13, q_xE_14, q_xE_15, q_xE_16, q_xE_17, q_xE_18, q_xE_19]; rfl
  simp only [q_xE_10]
  refine Subscript_ (bin_core H H' C I G ok.1 ok.2 (subscriptTail (xE c.T tb x) (xE c.T tb y)) rfl hn hx (fun V W σ₁ v w αs₁ h₁ t₁ hr I₁ N₁ R₁ R₂ _ => ?_))
  rw [hr] at hn hq
  exact sub_val (s := { s with heap := h₁, toks := t₁ }) C I₁ hs R₁ R₂ hn (fun U e u tk R => hq _ _ e u αs₁ h₁ tk I₁ N₁ R)
end
section
variable {n : Nat} {lf : Addr} {Fo : Orc} {c : Cx} {fr : List Addr} {sc : Scope} {tb : List (Str × Nat)} {env : Env} {vs : Vs} {αs : List (Addr × Addr)} {σ : Sg} {s : Shared}
theorem ok_bind {α β : Type} {a : α} {σ : Sg} {f : α → Sg → Out β} : (Out.ok a σ).bind f = f a σ := rfl
noncomputable def SoundI (n : Nat) (lf : Addr) (Fo : Orc) (xs : XL) : Prop :=
  ∀ (c : Cx), Cok n lf c → ∀ (fr : List Addr) (sc : Scope) (tb : List (Str × Nat)) (env : Env) (vs : Vs) (αs : List (Addr × Addr)) (σ : Sg) (s : Shared) (Q : Value → Shared → Prop) (E : Value → Shared → Prop),
    Inv c fr tb env vs αs σ s.heap → Gk sc env → okL c.T sc tb xs = true → evI c.T Fo vs xs σ ≠ .stuck →
    (∀ k σ', evI c.T Fo vs xs σ = .ok k σ' → ∀ v αs' h' tk, Inv c fr tb env vs αs' σ' h' → Nx c fr αs σ s.heap αs' σ' h' → IsPart v k → Q v { s with heap := h', toks := tk }) →
    HX c lf fr αs σ s (evI c.T Fo vs xs σ) E →
    wpAny (model c.prog c.w) c.A (evalPart (xlE c.T tb xs).head? env) Q E s
theorem sound_I_nil : SoundI n lf Fo .nil := by
  intro c C fr sc tb env vs αs σ s Q E I G ok hn hq hx
  simp only [q_xlE_0, List.head?_nil]
  exact wpAny_pure (hq none σ (by simp only [q_evI_0]) .none αs s.heap s.toks I .refl .none)
theorem sound_I_cons {x : X} {xs : XL} (H : SoundX n lf Fo x) : SoundI n lf Fo (.cons x xs) := by
  intro c C fr sc tb env vs αs σ s Q E I G ok hn hq hx
  simp only [q_okL_1, Bool.and_eq_true] at ok
  cases xs with
  | cons y r => exact absurd (by simp only [q_evI_2]) hn
  | nil =>
    simp only [q_evI_1] at hn hq hx
    simp only [q_xlE_0, q_xlE_1, List.head?_cons]
    refine H.run C I G ok.1 rfl hn hx (fun V σ₁ v αs₁ h₁ t₁ hr I₁ N₁ R₁ _ => ?_)
    rw [hr] at hn hq
    split at hn
    · obtain ⟨t, rfl⟩ := Rd.int R₁
      exact hq _ _ rfl _ αs₁ h₁ t₁ I₁ N₁ (.int _ _)
    · exact absurd rfl hn
theorem RdA.cut {z : Heap} {vs : List Value} {ds : List PyData} {lo hi : Option Int} (r : RdA z vs ds) :
    RdA z ((vs.drop (lo.elim 0 (clipAt ds.length))).take (hi.elim ds.length (clipAt ds.length) - lo.elim 0 (clipAt ds.length))) (cut lo hi ds) := (r.drop _).take _
set_option tactic.hygienic true in
theorem slc_val (C : Cok n lf c) (I : Inv c fr tb env vs αs σ s.heap) {value slice : PySem.Expr} (hs : ∀ o i, subscripted slice false o i = operate [i, o] (getItem o i)) {v vl vu : Value} {V : Mine.V} {lo hi : Option Int} (R : VR (Fz (Wl c fr αs σ) s.heap) αs v V) (pl : IsPart vl lo) (pu : IsPart vu hi)
    (hn : slcV V lo hi σ ≠ .stuck) {Q : Value → Shared → Prop} {E : Value → Shared → Prop}
    (hq : ∀ U, slcV V lo hi σ = .ok U σ → ∀ u h' tk, Inv c fr tb env vs αs σ h' → Nx c fr αs σ s.heap αs σ h' → VR (Fz (Wl c fr αs σ) h') αs u U → Q u { s with heap := h', toks := tk }) :
    wpAny (model c.prog c.w) c.A (subscriptTail value slice v (.ref s.heap.objs.size)) Q E { s with heap := s.heap.push { cls := .type "slice", data := .fields #[vl, vu, .none] } } := by
  obtain ⟨I₁, N₁, g₁⟩ := push_in I (o := { cls := .type "slice", data := .fields #[vl, vu, .none] }) rfl
  have hsl : ({ s with heap := s.heap.push { cls := .type "slice", data := .fields #[vl, vu, .none] } } : Shared).heap.IsSliceOf s.heap.objs.size vl vu .none := ⟨_, Inv.z_in _ _ g₁, rfl, rfl⟩
  unfold slcV at hn hq
  split at hn
  · rename_i ds
    split at hn
    · rename_i hz
      simp only [hz, if_true] at hq
      simp only [decide_eq_true_eq] at hz
      obtain ⟨a, o, ws, m, rfl, ho, hc, hd, r⟩ := rd_seq I₁ (N₁.vr R) (show rd σ (.d (.list ds)) = some (.list ds) from rfl) rfl
      simp only [reduceCtorEq, false_and, or_false, true_and] at hc
      have hl : ({ s with heap := s.heap.push { cls := .type "slice", data := .fields #[vl, vu, .none] } } : Shared).heap.IsList a ws := ⟨o, ho, hc, m, hd⟩
      refine sub_tail (s := { s with heap := s.heap.push { cls := .type "slice", data := .fields #[vl, vu, .none] } }) hl.typeIs list_getitem_lookup (wpAny_getItem_list_slice hl hsl pl pu .none (by simp) ?_ (by rw [size_of r, sizeLine_eq]; omega)) (hs _ _)
      obtain ⟨I₂, N₂, g₂⟩ := push_in I₁ (o := { cls := .type "list", data := .seq (slicePick ws lo hi none) }) rfl
      refine hq _ rfl _ _ _ I₂ (N₁.trans N₂) (rd_list g₂ rfl rfl ?_)
      have e : (slicePick ws lo hi none).toList = (ws.toList.drop (lo.elim 0 (clipAt ds.length))).take (hi.elim ds.length (clipAt ds.length) - lo.elim 0 (clipAt ds.length)) := by rw [slicePick_plain, size_of r]
      rw [e]
      exact N₂.rda r.cut
    · exact absurd rfl hn
  · rename_i ds
    split at hn
    · rename_i hz
      simp only [hz, if_true] at hq
      simp only [decide_eq_true_eq] at hz
      obtain ⟨a, o, ws, m, rfl, ho, hc, hd, r⟩ := rd_seq I₁ (N₁.vr R) (show rd σ (.d (.tuple ds)) = some (.tuple ds) from rfl) rfl
      simp only [reduceCtorEq, false_and, false_or, true_and] at hc
      have hl : IsTup ({ s with heap := s.heap.push { cls := .type "slice", data := .fields #[vl, vu, .none] } } : Shared).heap a ws := ⟨o, ho, hc, m, hd⟩
      refine sub_tail (s := { s with heap := s.heap.push { cls := .type "slice", data := .fields #[vl, vu, .none] } }) hl.typeIs slot_tuple_getitem.lookup (getItem_tuple_cut hl hsl pl pu (fun he => ?_) ?_ (by rw [size_of r, sizeLine_eq]; omega)) (hs _ _)
      · have R₁ := N₁.vr R
        refine hq _ rfl _ _ s.toks I₁ N₁ ?_
        have e : Mine.cut lo hi ds = ds := by
          have hl := congrArg List.length he
          have hsz := size_of r
          rw [hsz, List.length_take, List.length_drop, Array.length_toList (xs := ws)] at hl
          unfold Mine.cut
          by_cases h00 : ds = []
          · subst h00; simp
          have h01 : 0 < ds.length := List.length_pos_iff.mpr h00
          have h1 : lo.elim 0 (clipAt ds.length) = 0 := by omega
          have h2 : ds.length ≤ hi.elim ds.length (clipAt ds.length) := by omega
          rw [h1, List.drop_zero, Nat.sub_zero, List.take_of_length_le h2]
        rw [e]; exact R₁
      · obtain ⟨I₂, N₂, g₂⟩ := push_in I₁ (o := { cls := .type "tuple", data := .seq ((ws.toList.drop (lo.elim 0 (clipAt ws.size))).take (hi.elim ws.size (clipAt ws.size) - lo.elim 0 (clipAt ws.size))).toArray }) rfl
        refine hq _ rfl _ _ _ I₂ (N₁.trans N₂) (rd_tuple g₂ rfl rfl ?_)
        have e : ((ws.toList.drop (lo.elim 0 (clipAt ws.size))).take (hi.elim ws.size (clipAt ws.size) - lo.elim 0 (clipAt ws.size))).toArray.toList = (ws.toList.drop (lo.elim 0 (clipAt ds.length))).take (hi.elim ds.length (clipAt ds.length) - lo.elim 0 (clipAt ds.length)) := by rw [size_of r]
        rw [e]
        exact N₂.rda r.cut
    · exact absurd rfl hn
  · exact absurd rfl hn
theorem sound_slc {x : X} {lo hi : XL} (H : SoundX n lf Fo x) (Hl : SoundI n lf Fo lo) (Hh : SoundI n lf Fo hi) (ps p : Pos) : SoundX n lf Fo (.slc x lo hi ps p) := by
  intro c C fr sc tb env vs αs σ s Q E I G ok hn hq hx
  simp only [q_okX_11, Bool.and_eq_true] at ok
  simp only [q_ev_11] at hn hq hx
  simp only [q_xE_11, slE]
  refine Subscript_ (H.run C I G ok.1.1 rfl hn hx (fun V σ₁ v αs₁ h₁ t₁ hr I₁ N₁ R₁ hx₁ => ?_))
  rw [hr] at hn hq hx₁
  refine wpAny_Slice (Hl c C fr sc tb env vs αs₁ σ₁ _ _ E I₁ G ok.1.2 (bind_ok rfl hn) (fun l σ₂ e₂ vl αs₂ h₂ t₂ I₂ N₂ pl => ?_) (fun e => hx₁ (by rw [e]; rfl)))
  rw [e₂, ok_bind] at hn hq hx₁
  refine Hh c C fr sc tb env vs αs₂ σ₂ _ _ E I₂ G ok.2 (bind_ok rfl hn) (fun h σ₃ e₃ vu αs₃ h₃ t₃ I₃ N₃ pu => ?_) (fun e => (HX.after (s := { s with heap := h₁, toks := t₁ }) hx₁ N₂ id) (by show (evI c.T Fo vs hi σ₂).bind _ = _; rw [e]; rfl))
  rw [e₃] at hn hq
  rw [evalPart_none]
  refine wpAny_pure ?_
  have N₁₃ := (N₁.trans N₂).trans N₃
  exact slc_val (s := { s with heap := h₃, toks := t₃ }) C I₃ (fun o i => rfl) ((N₂.trans N₃).vr R₁) pl pu hn (fun U e u h' tk I' N' R' => hq _ _ e u αs₃ h' tk I' (N₁₃.trans N') R')
noncomputable def VRs (z : Heap) (αs : List (Addr × Addr)) (us : List Value) (as : List V) : Prop := us.length = as.length ∧ ∀ (i : Nat) (a : V), as[i]? = some a → ∃ u, us[i]? = some u ∧ VR z αs u a
theorem VRs.nil {z : Heap} {αs : List (Addr × Addr)} : VRs z αs [] [] := ⟨rfl, fun i a e => by simp at e⟩
theorem VRs.cons {z : Heap} {αs : List (Addr × Addr)} {u : Value} {a : V} {us : List Value} {as : List V} (r : VR z αs u a) (s : VRs z αs us as) : VRs z αs (u :: us) (a :: as) := by
  refine ⟨by rw [List.length_cons, List.length_cons, s.1], fun i b e => ?_⟩
  cases i with
  | zero => simp only [List.getElem?_cons_zero, Option.some.injEq] at e; subst e; exact ⟨u, rfl, r⟩
  | succ i => simp only [List.getElem?_cons_succ] at e ⊢; exact s.2 i b e
theorem VRs.uncons {z : Heap} {αs : List (Addr × Addr)} {us : List Value} {a : V} {as : List V} (s : VRs z αs us (a :: as)) : ∃ u r, us = u :: r ∧ VR z αs u a ∧ VRs z αs r as := by
  obtain ⟨h1, h2⟩ := s
  cases us with
  | nil => simp at h1
  | cons u r =>
    refine ⟨u, r, rfl, ?_, by simpa using h1, fun i b e => ?_⟩
    · obtain ⟨u', e1, e2⟩ := h2 0 a rfl
      simp only [List.getElem?_cons_zero, Option.some.injEq] at e1
      exact e1 ▸ e2
    · exact h2 (i + 1) b (by simpa using e)
theorem VRs.left_nil {z : Heap} {αs : List (Addr × Addr)} {us : List Value} (s : VRs z αs us []) : us = [] := List.eq_nil_of_length_eq_zero s.1
theorem Nx.vrs {αs' : List (Addr × Addr)} {σ' : Sg} {h h' : Heap} (N : Nx c fr αs σ h αs' σ' h') {us : List Value} {as : List V} (r : VRs (Fz (Wl c fr αs σ) h) αs us as) : VRs (Fz (Wl c fr αs' σ') h') αs' us as :=
  ⟨r.1, fun i a e => let ⟨u, e1, e2⟩ := r.2 i a e; ⟨u, e1, N.vr e2⟩⟩
noncomputable def SoundA (n : Nat) (lf : Addr) (Fo : Orc) (xs : XL) : Prop :=
  ∀ (c : Cx), Cok n lf c → ∀ (fr : List Addr) (sc : Scope) (tb : List (Str × Nat)) (env : Env) (vs : Vs) (αs : List (Addr × Addr)) (σ : Sg) (s : Shared) (pos : Pos) (Q : List Value → Shared → Prop) (E : Value → Shared → Prop),
    Inv c fr tb env vs αs σ s.heap → Gk sc env → okL c.T sc tb xs = true → evA c.T Fo vs xs σ ≠ .stuck →
    (∀ as σ', evA c.T Fo vs xs σ = .ok as σ' → ∀ us αs' h' tk, Inv c fr tb env vs αs' σ' h' → Nx c fr αs σ s.heap αs' σ' h' → VRs (Fz (Wl c fr αs' σ') h') αs' us as → us.length = xs.len → Q us { s with heap := h', toks := tk }) →
    HX c lf fr αs σ s (evA c.T Fo vs xs σ) E →
    wpAny (model c.prog c.w) c.A (spliced (backTo pos (starEach (xlE c.T tb xs) env))) Q E s
theorem sound_A_nil : SoundA n lf Fo .nil := by
  intro c C fr sc tb env vs αs σ s pos Q E I G ok hn hq hx
  simp only [q_xlE_0]
  exact wpAny_items_nil (hq [] σ (by simp [q_evA_0]) [] αs s.heap s.toks I .refl .nil rfl)
theorem sound_A_cons {x : X} {xs : XL} (H : SoundX n lf Fo x) (H' : SoundA n lf Fo xs) : SoundA n lf Fo (.cons x xs) := by
  intro c C fr sc tb env vs αs σ s pos Q E I G ok hn hq hx
  simp only [q_okL_1, Bool.and_eq_true] at ok
  simp only [q_evA_1] at hn hq hx
  simp only [q_xlE_1]
  have hn1 := bind_ok rfl hn
  refine wpAny_items_cons ?_ (star_x (not_dead hn1))
  refine H.run C I G ok.1 rfl hn hx (fun a σ₁ v αs₁ h₁ t₁ hr I₁ N₁ R₁ hx₁ => ?_)
  rw [hr] at hn hq hx₁
  cases he : arg a σ₁ with
  | stuck => rw [he] at hn; exact absurd rfl hn
  | ex => exact absurd he arg_ne
  | ok y σ₂ =>
    rw [he] at hn hq hx₁
    obtain ⟨I₂, N₂, R₂⟩ := arg_ok I₁ R₁ he
    have N₁₂ := N₁.trans N₂
    simp only [Out.bind] at hn hq hx₁
    have hx₂ := hx₁.after (s := { s with heap := h₁, toks := t₁ }) (h := h₁) (t := t₁) (r' := (evA c.T Fo vs xs σ₂).bind fun ys σ => Out.ok (y :: ys) σ) N₂ id
    refine H' c C fr sc tb env vs αs₁ σ₂ _ pos _ E I₂ G ok.2 (bind_ok rfl hn) (fun ds σ' e us αs' h' tk I' N' R' hl => ?_) (fun e => ?_)
    · rw [e] at hq
      refine hq _ _ rfl (v :: us) αs' h' tk I' (N₁₂.trans N') (.cons (N'.vr R₂) R') ?_
      rw [List.length_cons, hl, XL.len]
    · refine hx₂ ?_
      rw [e]; rfl
end
section
variable {n : Nat} {lf : Addr} {Fo : Orc} {c : Cx} {fr : List Addr} {sc : Scope} {tb : List (Str × Nat)} {env : Env} {vs : Vs} {αs : List (Addr × Addr)} {σ : Sg} {s : Shared}
theorem strOk_int (i : Int) (h0 : 0 ≤ i) : (PyData.str (Str.ofString (toString i))).canLay0 = true := by
  simp only [PyData.canLay0, PyData.strOk]
  rw [Str.ofString_eq_toList]
  simp only [List.all_toArray, List.all_map, List.all_eq_true, Function.comp_apply, decide_eq_true_eq]
  intro ch _
  have := ch.valid
  rw [UInt32.isValidChar, Nat.isValidChar] at this
  show ch.val.toNat < 1114112
  omega
noncomputable def BcOK (c : Cx) (fr : List Addr) (tb : List (Str × Nat)) (env : Env) (vs : Vs) (αs : List (Addr × Addr)) (σ : Sg) (s : Shared) (fv v : Value) (r : PyData) : Prop :=
  ∀ (Q : Value → Shared → Prop) (E : Value → Shared → Prop), (∀ u h' tk, Inv c fr tb env vs αs σ h' → Nx c fr αs σ s.heap αs σ h' → Rd (Fz (Wl c fr αs σ) h') u r → Q u { s with heap := h', toks := tk }) → wpAny (model c.prog c.w) c.A (call fv [v]) Q E s
theorem log_lt {i : Int} (h : i < 1000000) (h0 : 0 ≤ i) : i.natAbs.log2 < 1920 := by
  by_cases h1 : i.natAbs = 0
  · rw [h1]; decide
  · exact Nat.lt_trans ((Nat.log2_lt h1).mpr (show i.natAbs < 2 ^ 30 by omega)) (by decide)
section
variable (C : Cok n lf c) (I : Inv c fr tb env vs αs σ s.heap) {v : Value} {V : Mine.V} {x r : PyData} (R : VR (Fz (Wl c fr αs σ) s.heap) αs v V) (ex : rd σ V = some x)
include I R ex
theorem bc_tuple (e : bcallop .tuple x = some r) : BcOK c fr tb env vs αs σ s (.type "tuple") v r := by
  obtain ⟨ds, hds, e⟩ := Option.bind_eq_some_iff.mp e
  refine if_e (BcOK c fr tb env vs αs σ s (.type "tuple") v) e fun hz => ?_
  have hz := of_decide_eq_true hz
  have tp := fun a (h : x = .tuple a) => rd_tup (a := a) R (ex.trans (congrArg some h))
  obtain ⟨a, o, ws, m, rfl, ho, hc, hd, r1⟩ := rd_seq I R ex hds
  have q := size_of r1
  intro Q E hq
  rcases hc with ⟨_, hc⟩ | ⟨h, hc⟩
  · refine call_tuple_list ⟨o, ho, hc, m, hd⟩ (fun h' hk => ?_) (by rw [q, sizeLine_eq]; omega)
    have N₁ : Nx c fr αs σ s.heap αs σ h' := Nx.keep hk
    obtain ⟨I₂, N₂, g⟩ := push_in (I.keep hk) (o := { cls := .type "tuple", data := .seq ws }) rfl
    exact hq _ _ _ I₂ (N₁.trans N₂) (rd_tuple g rfl rfl (N₂.rda (N₁.rda r1)))
  · exact call_tuple_tup ⟨o, ho, hc, m, hd⟩ (hq _ _ _ I .refl (tp _ h))
theorem bc_list (e : bcallop .list x = some r) : BcOK c fr tb env vs αs σ s (.type "list") v r := by
  obtain ⟨ds, hds, e⟩ := Option.bind_eq_some_iff.mp e
  refine if_e (BcOK c fr tb env vs αs σ s (.type "list") v) e fun hz => ?_
  have hz := of_decide_eq_true hz
  obtain ⟨a, o, ws, m, rfl, ho, hc, hd, r1⟩ := rd_seq I R ex hds
  have q := size_of r1
  have hc' : ∃ T, (T = "list" ∨ T = "tuple") ∧ o.cls = .type T := hc.elim (fun h => ⟨_, .inl rfl, h.2⟩) (fun h => ⟨_, .inr rfl, h.2⟩)
  obtain ⟨T, hT, hcT⟩ := hc'
  refine fun Q E hq => call_list_seq a hT ho hcT hd (fun h' c' hk hD => ?_) (by rw [q, sizeLine_eq]; omega)
  have N₁ : Nx c fr αs σ s.heap αs σ h' := Nx.keep hk
  refine hq _ _ _ (I.keep hk) N₁ (rd_list (fz_iff.mpr ⟨hD, fun hm => ?_⟩) rfl rfl (N₁.rda r1))
  have : ∃ o', s.heap.get? s.heap.objs.size = some o' := by
    rcases mem_Wl.mp hm with q | q | ⟨k, p, cl, h1, h2, _, h4⟩
    · exact I.st.thr _ (.inl q)
    · exact I.st.thr _ (.inr q)
    · exact (I.st.cell k p cl h1 h2).there _ h4
  obtain ⟨o', e'⟩ := this
  rw [fresh] at e'; cases e'
theorem bc_int (e : bcallop .int x = some r) : BcOK c fr tb env vs αs σ s (.type "int") v r := by
  have rx := rd_ok I R ex
  cases x with
  | bool b =>
    obtain rfl := Rd.bool rx
    cases e
    exact fun Q E hq => call_int_bool (hq _ _ _ I .refl (rd_int _ _))
  | _ => exact nn e
theorem bc_len (e : bcallop .len x = some r) : BcOK c fr tb env vs αs σ s (.builtin "len") v r := by
  obtain ⟨ds, hds, e⟩ := Option.bind_eq_some_iff.mp e
  refine if_e (BcOK c fr tb env vs αs σ s (.builtin "len") v) e fun hz => ?_
  have hz := of_decide_eq_true hz
  obtain ⟨a, o, ws, m, rfl, ho, hc, hd, r1⟩ := rd_seq I R ex hds
  have hsz := size_of r1
  have hl : ((ws.size : Nat) : Int) = ((ds.length : Nat) : Int) := by rw [hsz]
  have hw : ws.size ≤ 100000 := by rw [hsz]; exact hz
  intro Q E hq
  rcases hc with ⟨_, hc⟩ | ⟨_, hc⟩
  · exact len_list ⟨o, ho, hc, m, hd⟩ (by omega) (hq _ _ _ I .refl (hl ▸ rd_int _ _))
  · exact len_tuple ⟨o, ho, hc, m, hd⟩ (by omega) (hq _ _ _ I .refl (hl ▸ rd_int _ _))
include C
theorem bc_str (e : bcallop .str x = some r) : BcOK c fr tb env vs αs σ s (.type "str") v r := by
  have rx := rd_ok I R ex
  cases x with
  | int i =>
    refine if_e (BcOK c fr tb env vs αs σ s (.type "str") v) e fun hz => ?_
    have hz := Bool.and_eq_true_iff.mp hz
    obtain ⟨t, rfl⟩ := Rd.int rx
    exact fun Q E hq => P.str_of_int (log_lt (of_decide_eq_true hz.2) (of_decide_eq_true hz.1)) (hq _ _ _ I .refl (rd_str _ (strOk_int i (of_decide_eq_true hz.1))))
  | list ds =>
    refine if_e (BcOK c fr tb env vs αs σ s (.type "str") v) e fun hz => ?_
    simp only [Bool.and_eq_true, decide_eq_true_eq] at hz
    obtain ⟨⟨as, rr⟩, lx⟩ := rx
    obtain ⟨a, o, ws, m, rfl, _⟩ := rd_seq I R ex rfl
    have hu := units_lt C
    refine fun Q E hq => str_of_reads rr hz.1.1.2 (PyData.noDict_hsm (PyData.hasDict_of_canLay _ lx)) C.rm.gu (by unfold cLine; omega) (fun b o e => e) (fun h' u tk hk => ?_) (by rw [sizeLine_eq]; omega)
    exact hq _ _ _ (I.keep hk) (Nx.keep hk) (rd_str _ hz.1.2)
  | _ => exact nn e
end
theorem bc_val (C : Cok n lf c) (I : Inv c fr tb env vs αs σ s.heap) {b : BOp} {v : Value} {V : Mine.V} {x r : PyData} (R : VR (Fz (Wl c fr αs σ) s.heap) αs v V)
    (ex : rd σ V = some x) (e : bcallop b x = some r) {fv : Value} (hf : bootBuiltins (bname b) = some fv) {Q : Value → Shared → Prop} {E : Value → Shared → Prop}
    (hq : ∀ u h' tk, Inv c fr tb env vs αs σ h' → Nx c fr αs σ s.heap αs σ h' → Rd (Fz (Wl c fr αs σ) h') u r → Q u { s with heap := h', toks := tk }) :
    wpAny (model c.prog c.w) c.A (call fv [v]) Q E s := by
  refine (?_ : BcOK c fr tb env vs αs σ s fv v r) Q E hq
  cases b with
  | dict => exact nn e
  | tuple => obtain rfl : fv = .type "tuple" := Option.some.inj (hf.symm.trans (by decide +kernel)); exact bc_tuple I R ex e
  | list => obtain rfl : fv = .type "list" := Option.some.inj (hf.symm.trans (by decide +kernel)); exact bc_list I R ex e
  | str => obtain rfl : fv = .type "str" := Option.some.inj (hf.symm.trans (by decide +kernel)); exact bc_str C I R ex e
  | int => obtain rfl : fv = .type "int" := Option.some.inj (hf.symm.trans (by decide +kernel)); exact bc_int I R ex e
  | len => obtain rfl : fv = .builtin "len" := Option.some.inj (hf.symm.trans (by decide +kernel)); exact bc_len I R ex e
end
theorem list_keys_miss : typeLookup (.type "list") "keys" = pure none := am_miss_of_fast (by decide +kernel)
section
variable {prog : Program} {w : World} {A : Around} {E : Value → Shared → Prop} {s : Shared}
theorem list_no_keys {a : Addr} {xs : Array Value} {k : Nat} {Q : Option Value → Shared → Prop}
    (hx : s.heap.get? a = some { cls := .type "list", data := .seq xs k }) (hA : A.handled = none)
    (h : ∀ h' tk, (∀ b o, s.heap.get? b = some o → h'.get? b = some o) → Q none { s with heap := h', toks := tk }) :
    wpAny (model prog w) A (getAttr? (.ref a) "keys") Q E s := by
  have hname : (["__module__", "__name__", "__qualname__", "__doc__", "__annotations__"] : List Str).contains "keys" = false := by decide
  have hmiss := list_keys_miss
  have hsz : ("keys" : Str).length + 100 ≤ sizeLine := by decide
  obtain ⟨hp, g, d, tk, os⟩ := s
  have hT : ∀ tk', (⟨hp, g, d, tk', os⟩ : Shared).TypeIs (.ref a) "list" := fun _ => ⟨_, hx, rfl⟩
  have f1 := sub_AttributeError
  have f3 := F.slot_list_getattribute.lookup
  have f4 := F.slot_list_getattribute.bind (.ref a)
  have f5 := am_list_getattr_none
  unfold getAttr? getAttrBy? getAttrBy
  repeat (any_goals (first | assumption | exact hT _ | ((with_reducible show wpAny _ _ (call (Value.builtin "list.__getattribute__") _ _) _ _ _); refine call_meets F.slot_list_getattribute (hT _) am_entry_list_getattribute (F.args_list_getattribute_2 _ _) (meets_getattribute_miss_list a xs k #[] "keys" _ hmiss hname hsz) ⟨hx, hA, fun h' tk' e hx' => ?_⟩) | wp_step))
  obtain ⟨t', u', he⟩ := hx'.there
  show wpAny _ _ (getattributeRaised _ _ _ _ _ _ _) _ _ _
  unfold getattributeRaised
  repeat (any_goals (first | assumption | wp_step))
  exact h _ _ hx'.of.keeps
end
theorem entry_upd_loop : entryFor table "dict.update.loop" = some Builtin.«dict.update.loop» := entryFor_of_fast (by kernel_rfl)
theorem plain_upd_loop : plainId "dict.update.loop" = true := by decide +kernel
section
variable {prog : Program} {w : World} {A : Around} {E : Value → Shared → Prop} {s : Shared}
theorem upd_end' {d it : Addr} {i : Int} {t : Tok} {R : Result → Shared → Prop}
    (hnext : ∀ (Q : Option Value → Shared → Prop), (∀ h', Heap.ExtBut it s.heap h' → Q none { s with heap := h' }) → wpAny (model prog w) A.in1 (pyNext (.ref it)) Q (fun e s' => R (.error e) s') s)
    (h : ∀ h', Heap.ExtBut it s.heap h' → R (.ok (.ret .none)) { s with heap := h' }) :
    codeAny (model prog w) A (.builtin "dict.update.loop" ⟨[.ref d, .ref it, .int i t, .none], []⟩) R s := by
  refine codeAny_builtin entry_upd_loop ?_
  rw [Around.under_plainId plain_upd_loop _]
  unfold Builtin.«dict.update.loop»
  show wpAny _ _ (_ >>= _) _ _ _
  refine wpAny_bind (hnext _ fun h' he => ?_)
  exact wpAny_bind (wpAny_pure (wpAny_pure (h h' he)))
theorem upd_turn' {d it l p : Addr} {o : Obj} {m j : Nat} {k v : Value} {i : Int} {t : Tok} {R : Result → Shared → Prop}
    (hnext : ∀ (Q : Option Value → Shared → Prop), (∀ h', h'.IsListIter it l j → Heap.SameBut it s.heap h' → Q (some (.ref p)) { s with heap := h' }) → wpAny (model prog w) A.in1 (pyNext (.ref it)) Q (fun e s' => R (.error e) s') s)
    (hc : o.cls = .type "tuple") (hd : o.data = .seq #[k, v] m)
    (hset : ∀ h', h'.IsListIter it l j → Heap.SameBut it s.heap h' → h'.get? p = some o ∧ ∀ (Q : Unit → Shared → Prop), (∀ s'', codeAny (model prog w) A (.builtin "dict.update.loop" ⟨[.ref d, .ref it, rawInt (i + 1), .none], []⟩) R s'' → Q () s'') → wpAny (model prog w) A.in1 (dictSet d k v) Q (fun e s' => R (.error e) s') { s with heap := h' }) :
    codeAny (model prog w) A (.builtin "dict.update.loop" ⟨[.ref d, .ref it, .int i t, .none], []⟩) R s := by
  refine codeAny_builtin entry_upd_loop ?_
  rw [Around.under_plainId plain_upd_loop _]
  unfold Builtin.«dict.update.loop»
  show wpAny _ _ (_ >>= _) _ _ _
  refine wpAny_bind (hnext _ fun h' h1 h2 => ?_)
  obtain ⟨hp, hset⟩ := hset h' h1 h2
  have hT : ({ s with heap := h' } : Shared).TypeIs (.ref p) "tuple" := ⟨_, hp, hc⟩
  refine wpAny_bind (wpAny_holding (wpAny_bind (wpAny_tryCatch ?_)))
  unfold Builtin.Dict.pairItems
  obtain ⟨hp', g, dd, tk, os⟩ := s
  wp_walk
  rw [hd]
  refine wpAny_pure (wpAny_pure ?_)
  refine wpAny_holding (hset _ fun s'' hs => ?_)
  exact wpAny_pure ⟨Code.quiet_builtin _ (by decide +kernel), hs⟩
end
theorem DRel.put {z : Heap} {k : Str} {v : Value} {x : PyData} (hv : Rd z v x) : ∀ {kv : List (Str × Value)} {kd : List (Str × PyData)}, DRel z kv kd → (kv.map (·.1)).Nodup → DRel z (stored kv k v) (put kd k x)
  | _, _, .nil, _ => .cons hv .nil
  | _, _, .cons (k := k') (v := u) (x := y) (kv := kv) (kd := kd) r s, hn => by
    simp only [List.map_cons, List.nodup_cons] at hn
    have ih := DRel.put (k := k) hv s hn.2
    unfold stored at ih ⊢
    unfold Mine.put
    by_cases hk : k' = k
    · subst hk
      simp only [List.any_cons, decide_true, Bool.true_or, if_true, List.map_cons]
      rw [map_store_of_not_mem kv k' v hn.1]
      exact .cons hv s
    · simp only [List.any_cons, hk, decide_false, Bool.false_or, List.map_cons, if_false]
      split at ih
      · rename_i h; rw [if_pos h]; exact .cons r ih
      · rename_i h; rw [if_neg h]; exact .cons r ih
section
variable {prog : Program} {w : World} {A : Around} {E : Value → Shared → Prop}
set_option tactic.hygienic true in
theorem upd_loop {z zf : Heap} {l d it : Addr} {items : Array Value} (hh : A.handled = none) (hf : ∀ b o, zf.get? b = some o → z.get? b = some o) (hl : z.IsList l items) (hd : z.get? d = none) (hit : z.get? it = none) (hdi : d ≠ it) (hz : items.size ≤ 100000) :
    ∀ (m j : Nat) (hj : j + m = items.size) (s : Shared) (kv : List (Str × Value)) (kd : List (Str × PyData)) (ds : List PyData) (kvs : List (Str × PyData)) (i : Int) (t : Tok) (R : Result → Shared → Prop),
    (∀ b o, z.get? b = some o → s.heap.get? b = some o) → s.heap.IsListIter it l j → s.heap.DictOf (strKind prog w) d kv → DRel zf kv kd → RdA zf (items.toList.drop j) ds → pairsOf ds = some kvs → kv.length ≤ j →
    (∀ h' tk kv', (∀ b o, z.get? b = some o → h'.get? b = some o) → h'.DictOf (strKind prog w) d kv' → DRel zf kv' (kvs.foldl (fun m p => put m p.1 p.2) kd) → R (.ok (.ret .none)) { s with heap := h', toks := tk }) →
    codeAny (model prog w) A (.builtin "dict.update.loop" ⟨[.ref d, .ref it, .int i t, .none], []⟩) R s := by
  have nez : ∀ {b : Addr} {o : Obj}, z.get? b = some o → b ≠ it := fun e q => by rw [q, hit] at e; cases e
  have ned : ∀ {b : Addr} {o : Obj}, z.get? b = some o → b ≠ d := fun e q => by rw [q, hd] at e; cases e
  intro m
  induction m with
  | zero =>
    intro j hj s kv kd ds kvs i t R hk hI hD hR hds hp hlen hq
    have e0 : items.toList.drop j = [] := List.drop_eq_nil_of_le (by simp; omega)
    rw [e0] at hds
    have := hds.left_nil
    subst this
    simp only [pairsOf] at hp
    cases hp
    have hL : s.heap.IsList l items := let ⟨o, ho, r⟩ := hl; ⟨o, hk _ _ ho, r⟩
    refine upd_end' (fun Q hQ => wpAny_pyNext_list_end (s := s) (A := A.in1) hh hI hL (by rw [Array.getElem?_eq_none_iff]; omega) (fun h' he => hQ h' he)) (fun h' he => ?_)
    exact hq h' s.toks kv (fun b o e => he b o (nez e) (hk b o e)) (hD.extBut he hdi) hR
  | succ m ih =>
    intro j hj s kv kd ds kvs i t R hk hI hD hR hds hp hlen hq
    have hjl : j < items.toList.length := by simp; omega
    rw [List.drop_eq_getElem_cons hjl] at hds
    have hL : s.heap.IsList l items := let ⟨o, ho, r⟩ := hl; ⟨o, hk _ _ ho, r⟩
    cases ds with
    | nil => have := hds.right_nil; cases this
    | cons x r =>
      obtain ⟨hx, hr⟩ := hds.uncons
      have hshape : ∃ k y kvs', x = .tuple [.str k, y] ∧ pairsOf r = some kvs' ∧ kvs = (k, y) :: kvs' := by
        unfold pairsOf at hp
        split at hp
        · rename_i e; cases e
        · rename_i k y r' e
          cases e
          rw [Option.map_eq_some_iff] at hp
          obtain ⟨kvs', e1, rfl⟩ := hp
          exact ⟨k, y, kvs', rfl, e1, rfl⟩
        · cases hp
      obtain ⟨k, y, kvs', rfl, hp', rfl⟩ := hshape
      obtain ⟨p, o, ws, mm, hv, ho, hc, hdat, hws⟩ := Rd.tuple hx
      have hw2 : ∃ tk v, ws = #[.str k tk, v] ∧ Rd zf v y := by
        cases hwl : ws.toList with
        | nil => rw [hwl] at hws; have := hws.left_nil; cases this
        | cons a l1 =>
          rw [hwl] at hws
          obtain ⟨ra, hw1⟩ := hws.uncons
          obtain ⟨tk, rfl⟩ := Rd.str ra
          cases l1 with
          | nil => have := hw1.left_nil; cases this
          | cons b l2 =>
            obtain ⟨rb, hw2⟩ := hw1.uncons
            have := hw2.right_nil
            subst this
            exact ⟨tk, b, by rw [← Array.toArray_toList (xs := ws), hwl], rb⟩
      obtain ⟨tk, v, rfl, hy⟩ := hw2
      have hzp := hf _ _ ho
      refine upd_turn' (p := p) (o := o) (k := .str k tk) (v := v) (m := mm) (fun Q hQ => wpAny_pyNext_list_item (s := s) (A := A.in1) hI hL (x := .ref p) (by rw [← hv]; simp [Array.getElem?_eq_getElem (show j < items.size by omega)]) (fun h' h1 h2 => hQ h' h1 h2)) hc hdat (fun h' h1 h2 => ?_)
      have hk1 : ∀ b o, z.get? b = some o → h'.get? b = some o := fun b o e => (h2.2 b (nez e)).trans (hk b o e)
      have hD1 := hD.sameBut h2 hdi
      refine ⟨hk1 _ _ hzp, fun Q hQ => ?_⟩
      refine wpAny_dictSet_pairs (str_key _ _ k tk) hD1 (fun h'' hD2 hs2 => hQ _ ?_) (by rw [sizeLine_eq]; omega)
      refine ih (j + 1) (by omega) _ _ (put kd k y) r kvs' _ _ R (fun b o e => (hs2.2 b (ned e)).trans (hk1 b o e)) ?_ hD2 ?_ hr hp' (Nat.le_trans (stored_length_le kv k v) (by omega)) (fun h3 tk3 kv3 a1 a2 a3 => hq h3 tk3 kv3 a1 a2 a3)
      · obtain ⟨o1, e1, e2⟩ := h1
        exact ⟨o1, (hs2.2 it (Ne.symm hdi)).trans e1, e2⟩
      · obtain ⟨_, _, _, _, _, _, _, _, hn⟩ := hD
        exact hR.put hy hn
theorem call_dict_pairs {s : Shared} {zf : Heap} {l : Addr} {items : Array Value} {m : Nat} {ds : List PyData} {kvs : List (Str × PyData)} {Q : Value → Shared → Prop} (hh : A.handled = none) (hf : ∀ b o, zf.get? b = some o → s.heap.get? b = some o)
    (hl : s.heap.get? l = some { cls := .type "list", data := .seq items m }) (hz : items.size ≤ 100000) (hr : RdA zf items.toList ds) (hp : pairsOf ds = some kvs)
    (h : ∀ d h' tk kv, s.heap.get? d = none → (∀ b o, s.heap.get? b = some o → h'.get? b = some o) → h'.DictOf (strKind prog w) d kv → DRel zf kv (kvs.foldl (fun m p => put m p.1 p.2) []) → Q (.ref d) { s with heap := h', toks := tk }) :
    wpAny (model prog w) A (call (.type "dict") [.ref l]) Q E s := by
  refine callType_codes (Q₁ := fun obj s₁ => obj = .ref s.heap.objs.size ∧ s₁ = { s with heap := s.heap.push { cls := .type "dict", data := .dict #[] } }) F.kt_called_dict (F.kt_typeCall_dict_1 _) F.entry_dict_init (kt_code_dict_new _ ⟨rfl, rfl⟩) ?_
  rintro obj s₁ ⟨rfl, rfl⟩
  have hnew : (s.heap.push { cls := .type "dict", data := .dict #[] }).DictOf (strKind prog w) s.heap.objs.size [] := Heap.DictOf.new s.heap
  have hl' : (s.heap.push { cls := .type "dict", data := .dict #[] }).get? l = some { cls := .type "list", data := .seq items m } := Heap.get?_push_of_some _ hl
  have hT : ({ s with heap := s.heap.push { cls := .type "dict", data := .dict #[] } } : Shared).TypeIs (.ref l) "list" := ⟨_, hl', rfl⟩
  refine ⟨hnew.typeIs, F.args_dict_init_2 _ _, ?_⟩
  unfold Builtin.«dict.__init__»
  refine wpAny_bind ?_
  unfold Builtin.Dict.selfAndRest
  refine wpAny_bind (wpAny_notOrdered_dict hnew.typeIs ?_)
  show wpAny _ _ (pure (s.heap.objs.size, [Value.ref l])) _ _ _
  refine wpAny_pure ?_
  show wpAny _ _ (Builtin.Dict.updateFrom "dict.__init__" s.heap.objs.size (.ref l) [] .none) _ _ _
  unfold Builtin.Dict.updateFrom
  refine wpAny_bind (wpAny_typeOf hT ?_)
  rw [if_pos (by decide)]
  refine wpAny_bind (list_no_keys hl' hh fun h' tk hk => ?_)
  rw [if_pos (by rfl)]
  refine wpAny_bind (wpAny_rule ?_)
  have hlk : h'.IsList l items := ⟨_, hk _ _ hl', rfl, m, rfl⟩
  refine wpAny_bind (wpAny_pyIter_list (s := { s with heap := h', toks := tk }) hlk ?_)
  have hk0 : ∀ b o, s.heap.get? b = some o → h'.get? b = some o := fun b o e => hk _ _ (Heap.get?_push_of_some _ e)
  have hdn : h'.get? s.heap.objs.size = some { cls := .type "dict", data := .dict #[] } := hk _ _ (Heap.get?_push_size _ rfl)
  have hit : s.heap.get? h'.objs.size = none := by
    cases e : s.heap.get? h'.objs.size with
    | none => rfl
    | some o => have := hk0 _ _ e; rw [fresh] at this; cases this
  have hdi : s.heap.objs.size ≠ h'.objs.size := fun e => by rw [e, fresh] at hdn; cases hdn
  have hD : (h'.push { cls := .type "list_iterator", data := .fields #[.ref l, .int 0 0] }).DictOf (strKind prog w) s.heap.objs.size [] := by
    obtain ⟨o, es, ep, ho, r⟩ := hnew
    exact ⟨o, es, ep, Heap.get?_push_of_some _ (hk _ _ ho), r⟩
  refine wpAny_pure ⟨Code.quiet_builtin _ (by decide +kernel), upd_loop (z := s.heap) (zf := zf) (l := l) (items := items) (A := A.in1) hh hf ⟨_, hl, rfl, m, rfl⟩ fresh hit hdi hz items.size 0 (by omega) _ [] [] ds kvs 0 0 _
    (fun b o e => Heap.get?_push_of_some _ (hk0 b o e)) ⟨_, Heap.get?_push_size _ rfl, rfl, rfl⟩ hD .nil (by simpa using hr) hp (by simp) (fun h3 tk3 kv3 a1 a2 a3 => ⟨rfl, h _ h3 tk3 kv3 fresh a1 a2 a3⟩)⟩
end
section
variable {n : Nat} {lf : Addr} {Fo : Orc} {c : Cx} {fr : List Addr} {sc : Scope} {tb : List (Str × Nat)} {env : Env} {vs : Vs} {αs : List (Addr × Addr)} {σ : Sg} {s : Shared}
noncomputable def SoundXP (n : Nat) (lf : Addr) (Fo : Orc) (x : X) : Prop :=
  ∀ (c : Cx), Cok n lf c → ∀ (fr : List Addr) (sc : Scope) (tb : List (Str × Nat)) (env : Env) (vs : Vs) (αs : List (Addr × Addr)) (σ : Sg) (s : Shared) (Q : Value → Shared → Prop) (E : Value → Shared → Prop),
    Inv c fr tb env vs αs σ s.heap → Gk sc env → okX c.T sc tb x = true → ev c.T Fo vs x σ ≠ .stuck →
    (∀ V σ', ev c.T Fo vs x σ = .ok V σ' → ∀ v αs' h' tk, Inv c fr tb env vs αs' σ' h' → Nx c fr αs σ s.heap αs' σ' h' → VR (Fz (Wl c fr αs' σ') h') αs' v V →
      (∃ a ws m, v = .ref a ∧ h'.get? a = some { cls := .type "list", data := .seq ws m } ∧ ∃ ds, V = .d (.list ds) ∧ RdA (Fz (Wl c fr αs' σ') h') ws.toList ds) → Q v { s with heap := h', toks := tk }) →
    HX c lf fr αs σ s (ev c.T Fo vs x σ) E →
    wpAny (model c.prog c.w) c.A (eval (xE c.T tb x) env) Q E s
theorem St.apart (S : St c fr αs σ s.heap) {a : Addr} (h : s.heap.get? a = none) : a ∉ fr ∧ a ∉ c.amb := by
  refine ⟨fun q => ?_, fun q => ?_⟩
  · obtain ⟨o, e⟩ := S.thr a (.inl q); rw [h] at e; cases e
  · obtain ⟨o, e⟩ := S.thr a (.inr q); rw [h] at e; cases e
theorem bname_mem (b : BOp) : bname b ∈ blts := by cases b <;> simp [bname, blts]
theorem boot_b (b : BOp) : ∃ fv, bootBuiltins (bname b) = some fv ∧ ((∃ T, fv = .type T) ∨ ∃ id, fv = .builtin id) := by
  cases b
  · exact ⟨.type "tuple", by decide +kernel, .inl ⟨_, rfl⟩⟩
  · exact ⟨.type "list", by decide +kernel, .inl ⟨_, rfl⟩⟩
  · exact ⟨.type "dict", by decide +kernel, .inl ⟨_, rfl⟩⟩
  · exact ⟨.type "str", by decide +kernel, .inl ⟨_, rfl⟩⟩
  · exact ⟨.type "int", by decide +kernel, .inl ⟨_, rfl⟩⟩
  · exact ⟨.builtin "len", by decide +kernel, .inr ⟨_, rfl⟩⟩
theorem call_b {env : Env} {g : Str} {pn pos : Pos} {e : PySem.Expr} {fv : Value} {Q : Value → Shared → Prop} {E : Value → Shared → Prop} {M : Model} {A : Around} (hs : starEach [e] env = [(false, eval e env)])
    (hk : (∃ T, fv = .type T) ∨ ∃ id, fv = .builtin id)
    (hN : ∀ Q : Value → Shared → Prop, Q fv s → wpAny M A (eval (.Name g pn) env) Q E s) (h : wpAny M A (eval e env) (fun v s₁ => wpAny M A (call fv [v]) Q E s₁) E s) :
    wpAny M A (eval (.Call (.Name g pn) [e] [] pos) env) Q E s := by
  have hc : ∀ f : Value, f = fv → wpAny M A (callWith pos f [] (backTo pos [(false, eval e env)]) []) Q E s := by
    rintro f rfl
    rcases hk with ⟨T, rfl⟩ | ⟨id, rfl⟩
    · exact PySem.callWith_type rfl (Calls.evalArgs_plain (Calls.spliced_cons (wpAny_mono h (fun _ _ h₁ => Calls.spliced_nil h₁) fun _ _ e => e)))
    · exact Calls.callWith_builtin rfl (Calls.evalArgs_plain (Calls.spliced_cons (wpAny_mono h (fun _ _ h₁ => Calls.spliced_nil h₁) fun _ _ e => e)))
  refine wpAny_Call_NameR (hN _ ?_)
  rw [hs]
  exact hc fv rfl
theorem star1 {T : Tab} {tb : List (Str × Nat)} {x : X} (hx : ∀ e, x ≠ .dead e) {env : Env} : starEach [xE T tb x] env = [(false, eval (xE T tb x) env)] := by
  rw [star_x hx]; rfl
theorem ok_not_dead {T : Tab} {sc : Scope} {x : X} (h : okX T sc tb x = true) : ∀ e, x ≠ .dead e := by
  rintro e rfl; simp [q_okX_20] at h
theorem sound_bcall {b : BOp} {x : X} (H : SoundX n lf Fo x) (HP : isComp x = true → SoundXP n lf Fo x) (g : Nat) (pn p : Pos) : SoundX n lf Fo (.bcall b g pn x p) := by
  intro c C fr sc tb env vs αs σ s Q E I G ok hn hq hx
  simp only [q_okX_7, Bool.and_eq_true, beq_iff_eq] at ok
  obtain ⟨⟨⟨og, ogn⟩, ox⟩, od⟩ := ok
  simp only [q_ev_7] at hn hq hx
  simp only [q_xE_7]
  obtain ⟨fv, hf, hk⟩ := boot_b b
  refine call_b (fv := fv) (star1 (ok_not_dead ox)) hk (fun Q q => name_blt C I G og (by rw [ogn]; exact bname_mem b) (by rw [ogn]; exact hf) q) ?_
  by_cases hb : b = .dict
  · subst hb
    have hfv : fv = .type "dict" := by
      have : bootBuiltins (bname .dict) = some (.type "dict") := by decide +kernel
      rw [this] at hf; cases hf; rfl
    subst hfv
    refine HP (by simpa [isDict] using od) c C fr sc tb env vs αs σ s _ E I G ox (bind_ok rfl hn) (fun V σ₁ e v αs₁ h₁ t₁ I₁ N₁ R₁ hpl => ?_) (fun e => hx (by rw [e]; rfl))
    rw [e, ok_bind] at hn hq
    obtain ⟨a, ws, m, rfl, hg, ds, rfl, hr⟩ := hpl
    unfold bcV at hn hq
    simp only [rd, Option.bind_some, items?] at hn hq
    by_cases hz : ds.length ≤ 1000
    · simp only [hz, decide_true, if_true] at hn hq
      cases hp : pairsOf ds with
      | none => rw [hp] at hn; exact absurd rfl hn
      | some kvs =>
        rw [hp] at hq
        refine call_dict_pairs (s := { s with heap := h₁, toks := t₁ }) C.rm.hd Inv.z_in hg (by rw [size_of hr]; omega) hr hp (fun d h' tk kv hd hk hD hR => ?_)
        have hap := I₁.st.apart (s := { s with heap := h₁ }) hd
        have I₂ : Inv c fr tb env vs (αs₁ ++ [(d, d)]) (σ₁ ++ [.dct (kvs.foldl (fun m p => put m p.1 p.2) [])]) h' :=
          I₁.new (p := (d, d)) (by intro a ha; simp [adr] at ha; subst ha; exact hd) (by intro a ha; simp [adr] at ha; subst ha; exact hap) hk (fun kz => ⟨kv, hD, hR.keeps kz⟩)
        have N₂ : Nx c fr αs₁ σ₁ h₁ (αs₁ ++ [(d, d)]) (σ₁ ++ [.dct (kvs.foldl (fun m p => put m p.1 p.2) [])]) h' := St.new_nx I₁.st.len (by intro a ha; simp [adr] at ha; subst ha; exact hd) hk
        refine hq _ _ rfl _ _ h' tk I₂ (N₁.trans N₂) ⟨(d, d), ?_, rfl⟩
        rw [← I₁.st.len, List.getElem?_append_right (Nat.le_refl _), Nat.sub_self]; rfl
    · simp only [hz, decide_false, Bool.false_eq_true, if_false] at hn
      exact absurd rfl hn
  · have hbv : ∀ V σ, bcV b V σ = lift σ ((rd σ V).bind (bcallop b)) := by
      intro V σ
      cases b <;> first | rfl | exact absurd rfl hb
    refine H.run C I G ox rfl hn hx (fun V σ₁ v αs₁ h₁ t₁ hr I₁ N₁ R₁ _ => ?_)
    rw [hr, hbv] at hn hq
    obtain ⟨z, hz⟩ := lift_ne hn
    rw [hz] at hq
    rw [Option.bind_eq_some_iff] at hz
    obtain ⟨x', e1, hz⟩ := hz
    exact bc_val (s := { s with heap := h₁, toks := t₁ }) C I₁ R₁ e1 hz hf (fun u h' tk I' N' R' => hq _ _ rfl u αs₁ h' tk I' (N₁.trans N') R')
end
section
variable {n : Nat} {lf : Addr} {Fo : Orc} {c : Cx} {fr : List Addr} {sc : Scope} {tb : List (Str × Nat)} {env : Env} {vs : Vs} {αs αs' : List (Addr × Addr)} {σ σ' : Sg} {s : Shared} {h h' h₁ h₂ : Heap}
noncomputable abbrev Cx.plus (c : Cx) (a : Addr) : Cx := { c with amb := a :: c.amb }
theorem Cok.plus (C : Cok n lf c) (a : Addr) : Cok n lf (c.plus a) := ⟨C.rm, C.fm, ⟨C.wd.kin, C.wd.noLim, C.wd.sys, C.wd.anI, C.wd.clsF, C.wd.noDig, C.wd.glob, C.wd.setF, C.wd.lfN, C.wd.raise, C.wd.catch_, fun f fn e => let ⟨o, fd, F⟩ := C.wd.fns f fn e; ⟨o, fd, F.at_, F.data, F.body, F.clos, F.glob, F.blt, F.kind, F.co, F.gen, F.rec_, F.bind, F.okB, F.okT⟩, C.wd.tabE⟩⟩
theorem CellR.plus {z : Heap} {a : Addr} {p : Addr × Addr} {cl : Cell} (r : CellR c h z αs p cl) : CellR (c.plus a) h z αs p cl := by cases cl <;> exact r
theorem CellR.minus {z : Heap} {a : Addr} {p : Addr × Addr} {cl : Cell} (r : CellR (c.plus a) h z αs p cl) : CellR c h z αs p cl := by cases cl <;> exact r
theorem lend_W {a b : Addr} : b ∈ Wl (c.plus a) fr αs σ ↔ b = a ∨ b ∈ Wl c fr αs σ := by
  rw [mem_Wl, mem_Wl]
  show b ∈ fr ∨ b ∈ a :: c.amb ∨ _ ↔ _
  rw [List.mem_cons]
  constructor
  · rintro (q | (q | q) | q)
    · exact .inr (.inl q)
    · exact .inl q
    · exact .inr (.inr (.inl q))
    · exact .inr (.inr (.inr q))
  · rintro (q | q | q | q)
    · exact .inr (.inl (.inl q))
    · exact .inl q
    · exact .inr (.inl (.inr q))
    · exact .inr (.inr q)
theorem lend_z {a : Addr} (ha : h.get? a = none) (k : ∀ b o, h.get? b = some o → h'.get? b = some o) : ∀ b o, (Fz (Wl c fr αs σ) h).get? b = some o → (Fz (Wl (c.plus a) fr αs σ) h').get? b = some o := by
  intro b o e
  obtain ⟨e1, e2⟩ := fz_iff.mp e
  refine fz_iff.mpr ⟨k b o e1, fun hm => ?_⟩
  rcases lend_W.mp hm with q | q
  · rw [q, ha] at e1; cases e1
  · exact e2 q
theorem Inv.lend (I : Inv c fr tb env vs αs σ h) {a : Addr} (ha : h.get? a = none) (k : ∀ b o, h.get? b = some o → h'.get? b = some o) (hn : ∃ o, h'.get? a = some o) : Inv (c.plus a) fr tb env vs αs σ h' := by
  have hz := lend_z (c := c) (fr := fr) (αs := αs) (σ := σ) ha k
  have hb : c.b₀.get? a = none := by
    cases q : c.b₀.get? a with
    | none => rfl
    | some o => have := I.st.base a o q; rw [ha] at this; cases this
  have ap := I.st.apart (s := { heap := h }) ha
  refine ⟨⟨I.st.len, fun j q dl h1 h2 => ((I.st.cell j q dl h1 h2).keep hz (fun b hb o e => k b o e) ⟨[], by simp⟩).plus, I.st.ap1, fun j q dl h1 h2 b hb' => ?_, fun b hb' hm => ?_, fun b hb' => ?_, fun b o e => k _ _ (I.st.base b o e), ?_, fun L hL => ?_, fun b hb' => ?_⟩, ?_, ?_⟩
  · obtain ⟨x1, x2, x3⟩ := I.st.ap2 j q dl h1 h2 b hb'
    refine ⟨x1, fun hm => ?_, x3⟩
    rcases List.mem_cons.mp hm with q' | q'
    · obtain ⟨o, e⟩ := (I.st.cell j q dl h1 h2).there b hb'
      rw [q', ha] at e; cases e
    · exact x2 q'
  · rcases List.mem_cons.mp hm with q' | q'
    · exact ap.1 (q' ▸ hb')
    · exact I.st.ap3 b hb' q'
  · rcases hb' with q' | q'
    · exact I.st.ap4 b (.inl q')
    · rcases List.mem_cons.mp q' with q' | q'
      · rw [q']; exact hb
      · exact I.st.ap4 b (.inr q')
  · refine ff_of I.st.ff fun L hL => ?_
    obtain ⟨_, o, ho, hd⟩ := I.st.ff.mem hL
    exact ⟨o, k _ _ ho, hd⟩
  · rcases I.st.frin L hL with q' | q'
    · exact .inl q'
    · exact .inr (List.mem_cons_of_mem _ q')
  · rcases hb' with q' | q'
    · obtain ⟨o, e⟩ := I.st.thr b (.inl q'); exact ⟨o, k _ _ e⟩
    · rcases List.mem_cons.mp q' with q' | q'
      · rw [q']; exact hn
      · obtain ⟨o, e⟩ := I.st.thr b (.inr q'); exact ⟨o, k _ _ e⟩
  · exact ⟨I.ek.kind, I.ek.glob, I.ek.blt, I.ek.frame, I.ek.loc, I.ek.cel, I.ek.inj, I.ek.locIn.imp id (List.mem_cons_of_mem _), fun nm b e => let ⟨x, y⟩ := I.ek.celIn nm b e; ⟨x.imp id (List.mem_cons_of_mem _), y⟩, I.ek.celInj⟩
  · obtain ⟨⟨m, hns, hm⟩, hc⟩ := I.fv
    refine ⟨⟨m, hns.keeps k, fun i nm V e g => ?_⟩, fun i nm e => ?_⟩
    · obtain ⟨v, e1, e2⟩ := hm i nm V e g
      exact ⟨v, e1, e2.mono hz ⟨[], by simp⟩⟩
    · obtain ⟨b, ov, e1, ⟨o, ho, hd⟩, e3⟩ := hc i nm e
      refine ⟨b, ov, e1, ⟨o, k _ _ ho, hd⟩, fun V g => ?_⟩
      obtain ⟨v, e4, e5⟩ := e3 V g
      exact ⟨v, e4, e5.mono hz ⟨[], by simp⟩⟩
theorem lend_exn {a e : Addr} {nt : Bool} {h'' : Heap} (ha : h.get? a = none) (k : ∀ b o, h.get? b = some o → h'.get? b = some o) (X : Exn (c.plus a) lf (Wl (c.plus a) fr αs σ) h' nt e h'') : Exn c lf (Wl c fr αs σ) h nt e h'' := by
  have un : ∀ {x : Addr}, Un (c.plus a) (Wl (c.plus a) fr αs σ) h' x → Un c (Wl c fr αs σ) h x := by
    intro x u o ho
    obtain ⟨u1, u2⟩ := u o (k _ _ ho)
    refine ⟨?_, fun q => u2 (List.mem_cons_of_mem _ q)⟩
    rcases lend_W.mp u1 with q | q
    · rw [q, ha] at ho; cases ho
    · exact q
  refine ⟨fun b o hb q => X.fz b o (fun hm => ?_) (k _ _ q), fun b hb o q => X.am b (List.mem_cons_of_mem _ hb) o (k _ _ q), X.ff, un X.un, X.base, ?_⟩
  · rcases lend_W.mp hm with q' | q'
    · rw [q', ha] at q; cases q
    · exact hb q'
  · obtain ⟨oe, vs, h1, h2, h3, h4, h5⟩ := X.ex
    refine ⟨oe, vs, h1, h2, h3, h4, ?_⟩
    rcases h5 with h5 | ⟨T, oT, ts, a1, a2, a3, a4, a5, a6, a7⟩
    · exact .inl h5
    · exact .inr ⟨T, oT, ts, a1, a2, a3, a4, a5, un a6, a7⟩
theorem lend_back {a : Addr} {o : Obj} (N : Nx (c.plus a) fr αs σ h αs' σ' h') (hff : a ∉ c.frs.filterMap (·.frame)) (e : h.get? a = some o) : h'.get? a = some o := (N.am a (.head _) o e).2 hff
theorem adopt_nx {a : Addr} {cl : Cell} (ha : h.get? a = none) (hc : adr (a, a) cl = [a]) (hlen : αs'.length = σ'.length) (k : ∀ b o, h.get? b = some o → h₁.get? b = some o) (N : Nx (c.plus a) fr αs σ h₁ αs' σ' h₂) (k2 : ∀ b o, b ≠ a → h₂.get? b = some o → h'.get? b = some o) (ham : a ∉ c.amb) :
    Nx c fr αs σ h (αs' ++ [(a, a)]) (σ' ++ [cl]) h' := by
  refine ⟨fun b o hb e => ?_, fun b hb o e => ?_, let ⟨l, e⟩ := N.ext; ⟨l ++ [(a, a)], by rw [e, List.append_assoc]⟩⟩
  · have hne : b ≠ a := fun q => by rw [q, ha] at e; cases e
    obtain ⟨e1, e2⟩ := N.fz b o (fun hm => by
      rcases lend_W.mp hm with q | q
      · exact hne q
      · exact hb q) (k _ _ e)
    refine ⟨k2 b o hne e1, fun hm => ?_⟩
    rcases mem_Wl.mp hm with q | q | ⟨j, q, dl, h1, h2, h3, h4⟩
    · exact e2 (mem_Wl.mpr (.inl q))
    · exact e2 (mem_Wl.mpr (.inr (.inl (List.mem_cons_of_mem _ q))))
    · rcases get_snoc h1 with ⟨l1, e1'⟩ | ⟨l1, e1'⟩ <;> rcases get_snoc h2 with ⟨l2, e2'⟩ | ⟨l2, e2'⟩
      · exact e2 (mem_Wl.mpr (.inr (.inr ⟨j, q, dl, e1', e2', h3, h4⟩)))
      · omega
      · omega
      · subst e1' e2'
        rw [hc] at h4
        exact hne (by simpa using h4)
  · have hne : b ≠ a := fun q => ham (q ▸ hb)
    obtain ⟨⟨sl, e1⟩, e2⟩ := N.am b (List.mem_cons_of_mem _ hb) o (k _ _ e)
    exact ⟨⟨sl, k2 _ _ hne e1⟩, fun hn => k2 _ _ hne (e2 hn)⟩
theorem Inv.adopt {a : Addr} {cl : Cell} (I : Inv (c.plus a) fr tb env vs αs σ h) (ham : a ∉ c.amb) (hc : adr (a, a) cl = [a]) (hlo : env.locals ≠ a) (hce : ∀ nm b, env.cells.lookup nm = some b → b ≠ a) (hff : ∀ L ∈ c.frs.filterMap (·.frame), L ≠ a) (k2 : ∀ b o, b ≠ a → h.get? b = some o → h'.get? b = some o)
    (hr : (∀ b o, (Fz (Wl (c.plus a) fr αs σ) h).get? b = some o → (Fz (Wl c fr (αs ++ [(a, a)]) (σ ++ [cl])) h').get? b = some o) → CellR c h' (Fz (Wl c fr (αs ++ [(a, a)]) (σ ++ [cl])) h') (αs ++ [(a, a)]) (a, a) cl) :
    Inv c fr tb env vs (αs ++ [(a, a)]) (σ ++ [cl]) h' := by
  have hfr : a ∉ fr := fun q => I.st.ap3 a q (.head _)
  have hz : ∀ b o, (Fz (Wl (c.plus a) fr αs σ) h).get? b = some o → (Fz (Wl c fr (αs ++ [(a, a)]) (σ ++ [cl])) h').get? b = some o := by
    intro b o e
    obtain ⟨e1, e2⟩ := fz_iff.mp e
    have hne : b ≠ a := fun q => e2 (lend_W.mpr (.inl q))
    refine fz_iff.mpr ⟨k2 b o hne e1, fun hm => ?_⟩
    rcases mem_Wl.mp hm with q | q | ⟨j, q, dl, h1, h2, h3, h4⟩
    · exact e2 (mem_Wl.mpr (.inl q))
    · exact e2 (mem_Wl.mpr (.inr (.inl (List.mem_cons_of_mem _ q))))
    · rcases get_snoc h1 with ⟨l1, e1'⟩ | ⟨l1, e1'⟩ <;> rcases get_snoc h2 with ⟨l2, e2'⟩ | ⟨l2, e2'⟩
      · exact e2 (mem_Wl.mpr (.inr (.inr ⟨j, q, dl, e1', e2', h3, h4⟩)))
      · have := I.st.len; omega
      · have := I.st.len; omega
      · subst e1' e2'
        rw [hc] at h4
        exact hne (by simpa using h4)
  have nea : ∀ (j : Nat) (q : Addr × Addr) (dl : Cell), αs[j]? = some q → σ[j]? = some dl → ∀ b ∈ adr q dl, b ≠ a := fun j q dl h1 h2 b hb e => (I.st.ap2 j q dl h1 h2 b hb).2.1 (e ▸ .head _)
  have two : ∀ {j : Nat} {q : Addr × Addr} {dl : Cell}, (αs ++ [(a, a)])[j]? = some q → (σ ++ [cl])[j]? = some dl → (αs[j]? = some q ∧ σ[j]? = some dl) ∨ (j = σ.length ∧ q = (a, a) ∧ dl = cl) := by
    intro j q dl h1 h2
    rcases get_snoc h1 with ⟨l1, e1⟩ | ⟨l1, e1⟩ <;> rcases get_snoc h2 with ⟨l2, e2⟩ | ⟨l2, e2⟩
    · exact .inl ⟨e1, e2⟩
    · have := I.st.len; omega
    · have := I.st.len; omega
    · exact .inr ⟨l2, e1, e2⟩
  refine ⟨⟨by rw [List.length_append, List.length_append, I.st.len]; rfl, fun j q dl h1 h2 => ?_, fun i j q r dl el hn h1 h2 h3 h4 => ?_, fun j q dl h1 h2 => ?_, fun b hb hm => I.st.ap3 b hb (List.mem_cons_of_mem _ hm), fun b hb => I.st.ap4 b (hb.imp id (List.mem_cons_of_mem _)), fun b o e => k2 b o (fun q => ?_) (I.st.base b o e), ?_, fun L hL => ?_, fun b hb => ?_⟩, ?_, ?_⟩
  · rcases two h1 h2 with ⟨e1, e2⟩ | ⟨_, rfl, rfl⟩
    · exact ((I.st.cell j q dl e1 e2).minus).keep hz (fun b hb o e => k2 b o (nea j q dl e1 e2 b hb) e) ⟨[(a, a)], rfl⟩
    · exact hr hz
  · rcases two h1 h2 with ⟨e1, e2⟩ | ⟨z1, rfl, rfl⟩ <;> rcases two h3 h4 with ⟨e3, e4⟩ | ⟨z2, rfl, rfl⟩
    · exact I.st.ap1 i j q r dl el hn e1 e2 e3 e4
    · intro b hb b' hb' e; rw [hc] at hb'; simp only [List.mem_singleton] at hb'; exact nea i q dl e1 e2 b hb (e.trans hb')
    · intro b hb b' hb' e; rw [hc] at hb; simp only [List.mem_singleton] at hb; exact nea j r el e3 e4 b' hb' (e.symm.trans hb)
    · omega
  · rcases two h1 h2 with ⟨e1, e2⟩ | ⟨_, rfl, rfl⟩
    · intro b hb
      obtain ⟨x1, x2, x3⟩ := I.st.ap2 j q dl e1 e2 b hb
      exact ⟨x1, fun hm => x2 (List.mem_cons_of_mem _ hm), x3⟩
    · intro b hb
      rw [hc] at hb; simp only [List.mem_singleton] at hb; subst hb
      exact ⟨hfr, ham, I.st.ap4 b (.inr (.head _))⟩
  · have := I.st.ap4 a (.inr (.head _)); rw [← q, e] at this; cases this
  · refine ff_of I.st.ff fun L hL => ?_
    obtain ⟨_, o, ho, hd⟩ := I.st.ff.mem hL
    exact ⟨o, k2 _ _ (hff L hL) ho, hd⟩
  · rcases I.st.frin L hL with q' | q'
    · exact .inl q'
    · rcases List.mem_cons.mp q' with q' | q'
      · exact absurd q' (hff L hL)
      · exact .inr q'
  · rcases hb with q | q
    · obtain ⟨o, e⟩ := I.st.thr b (.inl q); exact ⟨o, k2 _ _ (fun z => hfr (z ▸ q)) e⟩
    · obtain ⟨o, e⟩ := I.st.thr b (.inr (List.mem_cons_of_mem _ q)); exact ⟨o, k2 _ _ (fun z => ham (z ▸ q)) e⟩
  · refine ⟨I.ek.kind, I.ek.glob, I.ek.blt, I.ek.frame, I.ek.loc, I.ek.cel, I.ek.inj, I.ek.locIn.imp id (fun q => (List.mem_cons.mp q).resolve_left hlo), fun nm b e => ?_, I.ek.celInj⟩
    obtain ⟨x, y⟩ := I.ek.celIn nm b e
    refine ⟨x.imp id (fun q => ?_), y⟩
    rcases List.mem_cons.mp q with q | q
    · exact absurd q (hce nm b e)
    · exact q
  · obtain ⟨⟨m, ⟨o, es, ep, ho, hns⟩, hm⟩, hc'⟩ := I.fv
    refine ⟨⟨m, ⟨o, es, ep, k2 _ _ hlo ho, hns⟩, fun i nm V e g => ?_⟩, fun i nm e => ?_⟩
    · obtain ⟨v, e1, e2⟩ := hm i nm V e g
      exact ⟨v, e1, e2.mono hz ⟨[(a, a)], rfl⟩⟩
    · obtain ⟨b, ov, e1, ⟨o, ho, hd⟩, e3⟩ := hc' i nm e
      refine ⟨b, ov, e1, ⟨o, k2 _ _ (hce nm b e1) ho, hd⟩, fun V g => ?_⟩
      obtain ⟨v, e4, e5⟩ := e3 V g
      exact ⟨v, e4, e5.mono hz ⟨[(a, a)], rfl⟩⟩
end
section
variable {n : Nat} {lf : Addr} {Fo : Orc} {c : Cx} {fr : List Addr} {sc : Scope} {tb : List (Str × Nat)} {env : Env} {vs : Vs} {αs : List (Addr × Addr)} {σ : Sg} {s : Shared}
noncomputable def prs (T : Tab) (tb : List (Str × Nat)) (env : Env) (p : Pos) : XL → XL → List (Sem Value × Sem Value)
  | .cons k ks, .cons x xs => (eval (xE T tb k) env, do let v ← eval (xE T tb x) env; standAt p; pure v) :: prs T tb env p ks xs
  | _, _ => []
theorem prs_shape {T : Tab} {p : Pos} : ∀ {ks xs : XL}, ks.len = xs.len → (evalEachOpt ((xlE T tb ks).map some) env).zip ((evalEach (xlE T tb xs) env).map fun v => do let x ← v; standAt p; pure x) = (prs T tb env p ks xs).map fun p => (some p.1, p.2)
  | .nil, .nil, _ => rfl
  | .nil, .cons _ _, h => by simp [XL.len] at h
  | .cons _ _, .nil, h => by simp [XL.len] at h
  | .cons k ks, .cons x xs, h => by
    have ih := prs_shape (T := T) (p := p) (ks := ks) (xs := xs) (by simpa [XL.len] using h)
    simp only [q_xlE_1, List.map_cons, prs]
    show (some (eval (xE T tb k) env), _) :: _ = _
    rw [← ih]
    rfl
theorem prs_len {T : Tab} {p : Pos} : ∀ {ks xs : XL}, ks.len = xs.len → (prs T tb env p ks xs).length = xs.len
  | .nil, .nil, _ => rfl
  | .nil, .cons _ _, h => by simp [XL.len] at h
  | .cons _ _, .nil, h => by simp [XL.len] at h
  | .cons k ks, .cons x xs, h => by
    simp only [prs, List.length_cons, XL.len]
    rw [prs_len (by simpa [XL.len] using h)]
noncomputable def SoundK (n : Nat) (lf : Addr) (Fo : Orc) (xs : XL) : Prop :=
  ∀ (ks : XL) (l : List Str), ks.len = xs.len → keysOf ks = some l →
  ∀ (c : Cx), Cok n lf c → ∀ (fr : List Addr) (sc : Scope) (tb : List (Str × Nat)) (env : Env) (vs : Vs) (αs : List (Addr × Addr)) (σ : Sg) (s : Shared) (pos : Pos) (Q : List (Value × Value) → Shared → Prop) (E : Value → Shared → Prop),
    Inv c fr tb env vs αs σ s.heap → Gk sc env → okL c.T sc tb xs = true → evD c.T Fo vs xs σ ≠ .stuck →
    (∀ ds σ', evD c.T Fo vs xs σ = .ok ds σ' → ∀ us kvs αs' h' tk, Inv c fr tb env vs αs' σ' h' → Nx c fr αs σ s.heap αs' σ' h' → Carries (strKind c.prog c.w) us kvs → DRel (Fz (Wl c fr αs' σ') h') kvs (l.zip ds) → l.length = ds.length → Q us { s with heap := h', toks := tk }) →
    HX c lf fr αs σ s (evD c.T Fo vs xs σ) E →
    wpAny (model c.prog c.w) c.A (evalPairs (prs c.T tb env pos ks xs)) Q E s
theorem sound_K_nil : SoundK n lf Fo .nil := by
  intro ks l hl hk c C fr sc tb env vs αs σ s pos Q E I G ok hn hq hx
  cases ks with
  | cons k ks => simp [XL.len] at hl
  | nil =>
    simp only [keysOf] at hk
    cases hk
    exact evalPairs_nil (hq [] σ (by simp [q_evD_0]) [] [] αs s.heap s.toks I .refl trivial .nil rfl)
set_option tactic.hygienic true in
theorem sound_K_cons {x : X} {xs : XL} (H : SoundX n lf Fo x) (H' : SoundK n lf Fo xs) : SoundK n lf Fo (.cons x xs) := by
  intro ks l hl hk c C fr sc tb env vs αs σ s pos Q E I G ok hn hq hx
  cases ks with
  | nil => simp [XL.len] at hl
  | cons k ks =>
    have hkey : ∃ kk m p l', k = .cst (.str kk) m p ∧ keysOf ks = some l' ∧ l = kk :: l' := by
      unfold keysOf at hk
      split at hk
      · rename_i e; cases e
      · rename_i kk m p r e
        cases e
        rw [Option.map_eq_some_iff] at hk
        obtain ⟨l', e1, rfl⟩ := hk
        exact ⟨kk, m, p, l', rfl, e1, rfl⟩
      · cases hk
    obtain ⟨kk, m, p, l', rfl, hk', rfl⟩ := hkey
    simp only [q_okL_1, Bool.and_eq_true] at ok
    simp only [q_evD_1] at hn hq hx
    simp only [prs, q_xE_0]
    refine evalPairs_cons (wpAny_Constant_str ?_)
    refine wpAny_bind ?_
    have I0 : Inv c fr tb env vs αs σ ({ s with toks := s.toks + 1 } : Shared).heap := I
    refine H.run (s := { s with toks := s.toks + 1 }) C I0 G ok.1 rfl hn (fun e nt x h' tk X => hx e nt x h' tk X) (fun a σ₁ v αs₁ h₁ t₁ hr I₁ N₁ R₁ hx₁ => ?_)
    rw [hr] at hn hq hx₁
    refine wpAny_bind (wpAny_standAt (wpAny_pure ?_))
    cases he : esc a σ₁ with
    | stuck => rw [he] at hn; exact absurd rfl hn
    | ex => exact absurd he esc_ne
    | ok y σ₂ =>
      rw [he] at hn hq hx₁
      obtain ⟨I₂, N₂, R₂⟩ := esc_ok I₁ R₁ he
      have N₁₂ := N₁.trans N₂
      simp only [Out.bind] at hn hq hx₁
      have hx₂ := hx₁.after (s := { s with heap := h₁, toks := t₁ }) (h := h₁) (t := t₁) (r' := (evD c.T Fo vs xs σ₂).bind fun ys σ => Out.ok (y :: ys) σ) N₂ id
      refine H' ks l' (by simpa [XL.len] using hl) hk' c C fr sc tb env vs αs₁ σ₂ _ pos _ E I₂ G ok.2 (bind_ok rfl hn) (fun ds σ' e us kvs αs' h' tk I' N' hc hd hl => ?_) (fun e => ?_)
      · rw [e] at hq
        refine hq _ _ rfl _ ((kk, v) :: kvs) αs' h' tk I' (N₁₂.trans N') ⟨str_key _ _ kk _, rfl, hc⟩ (.cons (N'.rd R₂) hd) (by simpa using hl)
      · refine hx₂ ?_
        rw [e]; rfl
theorem DRel.merged {z : Heap} : ∀ {more : List (Str × Value)} {kd : List (Str × PyData)} {acc : List (Str × Value)} {accd : List (Str × PyData)}, DRel z more kd → DRel z acc accd → (acc.map (·.1)).Nodup → (∀ (kv : List (Str × Value)) (k : Str) (v : Value), (kv.map (·.1)).Nodup → ((stored kv k v).map (·.1)).Nodup) →
    DRel z (PySem.merged acc more) (kd.foldl (fun m p => Mine.put m p.1 p.2) accd)
  | _, _, acc, accd, .nil, s, hn, hs => s
  | _, _, acc, accd, .cons (k := k) (v := v) r t, s, hn, hs => by
    have q := DRel.merged t (s.put (k := k) r hn) (hs _ _ _ hn) hs
    exact q
theorem nodup_stored' (kv : List (Str × Value)) (k : Str) (v : Value) (hn : (kv.map (·.1)).Nodup) : ((stored kv k v).map (·.1)).Nodup := by
  unfold stored
  split
  · rw [keys_map_store]; exact hn
  · rename_i h
    rw [List.map_append, List.nodup_append]
    refine ⟨hn, by simp, ?_⟩
    intro a ha b hb e
    simp only [List.map_cons, List.map_nil, List.mem_singleton] at hb
    subst e hb
    apply h
    obtain ⟨q, hq, e⟩ := List.mem_map.mp ha
    rw [List.any_eq_true]
    exact ⟨q, hq, by simpa using e⟩
theorem sound_dsp {ks xs : XL} (H : SoundK n lf Fo xs) (p : Pos) : SoundX n lf Fo (.dsp ks xs p) := by
  intro c C fr sc tb env vs αs σ s Q E I G ok hn hq hx
  simp only [q_okX_5, Bool.and_eq_true, beq_iff_eq, decide_eq_true_eq] at ok
  obtain ⟨⟨⟨ok1, ok2⟩, ok3⟩, ok4⟩ := ok
  obtain ⟨l, hl⟩ := Option.isSome_iff_exists.mp ok1
  simp only [q_ev_5] at hn hq hx
  simp only [q_xE_5]
  have hfr := I.st.apart fresh
  cases hxs : xs with
  | nil =>
    subst hxs
    have hks : ks = .nil := by cases ks with | nil => rfl | cons _ _ => simp [XL.len] at ok2
    subst hks
    simp only [keysOf] at hl
    simp only [q_evD_0, ok_bind, keysOf, List.length_nil, if_true, List.zip_nil_right, List.foldl_nil] at hq
    simp only [q_xlE_0, List.map_nil]
    refine wpAny_Dict_empty ?_
    have k : ∀ b o, s.heap.get? b = some o → (s.heap.push { cls := .type "dict", data := .dict #[] }).get? b = some o := fun b o e => Heap.get?_push_of_some _ e
    have hA : ∀ a ∈ adr (s.heap.objs.size, s.heap.objs.size) (.dct []), s.heap.get? a = none := by intro a ha; simp [adr] at ha; subst ha; exact fresh
    refine hq _ _ rfl _ (αs ++ [(s.heap.objs.size, s.heap.objs.size)]) _ _ (I.new (p := (s.heap.objs.size, s.heap.objs.size)) hA (by intro a ha; simp [adr] at ha; subst ha; exact hfr) k (fun kz => ⟨[], Heap.DictOf.new s.heap, .nil⟩)) (St.new_nx I.st.len hA k) ⟨(s.heap.objs.size, s.heap.objs.size), ?_, rfl⟩
    rw [← I.st.len, List.getElem?_append_right (Nat.le_refl _), Nat.sub_self]; rfl
  | cons y ys =>
    have hlen := prs_len (T := c.T) (tb := tb) (env := env) (p := p) ok2
    rw [← hxs]
    refine wpAny_Dict_pairs (knd := strKind c.prog c.w) (prs_shape ok2) (by intro e; rw [e] at hlen; simp [hxs, XL.len] at hlen) (by omega) ?_
    have k : ∀ b o, s.heap.get? b = some o → (s.heap.push { cls := .type "dict", data := .dict #[] }).get? b = some o := fun b o e => Heap.get?_push_of_some _ e
    have I₁ : Inv (c.plus s.heap.objs.size) fr tb env vs αs σ (s.heap.push { cls := .type "dict", data := .dict #[] }) := I.lend fresh k ⟨_, Heap.get?_push_size _ rfl⟩
    have hx1 : evD c.T Fo vs xs σ = .ex → ∀ nt x h' tk, Exn (c.plus s.heap.objs.size) lf (Wl (c.plus s.heap.objs.size) fr αs σ) (s.heap.push { cls := .type "dict", data := .dict #[] }) nt x h' → E (.ref x) { s with heap := h', toks := tk } :=
      fun e nt x h' tk X => hx (by rw [e]; rfl) nt x h' tk (lend_exn fresh k X)
    refine H ks l ok2 hl (c.plus s.heap.objs.size) (C.plus _) fr sc tb env vs αs σ { s with heap := s.heap.push { cls := .type "dict", data := .dict #[] } } p _ E I₁ G ok3 (bind_ok rfl hn) (fun ds σ' e us kvs αs' h' tk I' N hc hd hle => ?_) hx1
    have hffa : s.heap.objs.size ∉ c.frs.filterMap (·.frame) := fun q => by
      obtain ⟨_, o, ho, _⟩ := I.st.ff.mem q
      rw [fresh] at ho; cases ho
    have hob := lend_back N hffa (Heap.get?_push_size _ rfl)
    have hD0 : h'.DictOf (strKind c.prog c.w) s.heap.objs.size [] := by
      obtain ⟨o, es, ep, ho, r⟩ := Heap.DictOf.new (knd := strKind c.prog c.w) s.heap
      rw [Heap.get?_push_size _ rfl] at ho
      cases ho
      exact ⟨_, es, ep, hob, r⟩
    refine ⟨kvs, hc, hD0, fun h'' hD hs => ?_⟩
    rw [e, ok_bind, hl] at hq hn
    simp only [hle, if_true] at hq
    have hce : ∀ nm b, env.cells.lookup nm = some b → b ≠ s.heap.objs.size := fun nm b e q => by
      rcases (I.ek.celIn nm b e).1 with z | z
      · exact hfr.1 (q ▸ z)
      · exact hfr.2 (q ▸ z)
    have hlo : env.locals ≠ s.heap.objs.size := fun q => I.ek.locIn.elim (fun z => hfr.1 (q ▸ z)) fun z => hfr.2 (q ▸ z)
    have I₂ := I'.adopt (h' := h'') (cl := .dct ((l.zip ds).foldl (fun m p => put m p.1 p.2) [])) hfr.2 rfl hlo hce (fun L hL q => hffa (q ▸ hL)) (fun b o hb e => (hs.2 b hb).trans e) (fun kz => ⟨_, hD, (DRel.merged hd .nil (by simp) nodup_stored').keeps kz⟩)
    have N₂ := adopt_nx (h := s.heap) (h' := h'') (cl := .dct ((l.zip ds).foldl (fun m p => put m p.1 p.2) [])) fresh rfl I'.st.len k N (fun b o hb e => (hs.2 b hb).trans e) hfr.2
    refine hq _ _ rfl _ _ _ _ I₂ N₂ ⟨(s.heap.objs.size, s.heap.objs.size), ?_, rfl⟩
    have := I'.st.len
    rw [← this, List.getElem?_append_right (Nat.le_refl _), Nat.sub_self]; rfl
end
section
variable {n : Nat} {lf : Addr} {Fo : Orc} {c : Cx} {fr : List Addr} {sc : Scope} {tb : List (Str × Nat)} {env : Env} {vs : Vs} {αs : List (Addr × Addr)} {σ : Sg} {s : Shared}
theorem attr_base {M : Model} {A : Around} {T : Tab} {x : X} {nm : Str} {whole : Sem Value} {Q : Value → Shared → Prop} {E : Value → Shared → Prop} (hx : okBase T x = true) (h : wpAny M A whole Q E s) : wpAny M A (attributeBase (xE T tb x) nm env whole) Q E s := by
  have other : ∀ e : PySem.Expr, (attributeBase e nm env whole = whole) → wpAny M A (attributeBase e nm env whole) Q E s := fun e he => by rw [he]; exact h
  cases x with
  | dead e => simp [okBase] at hx
  | call g pn xs p =>
    cases xs with
    | nil =>
      have hg : (T.gn g != ("super" : Str)) = true := by simpa [okBase] using hx
      simp only [q_xE_6, q_xlE_0]
      unfold attributeBase
      simp only [hg, Bool.true_or, if_true]
      first
        | exact wpAny_bind (wpAny_mono h (fun _ _ q => wpAny_pure q) fun _ _ q => q)
        | exact h
    | cons y r => exact other _ (by simp only [q_xE_6, q_xlE_1]; rfl)
  | _ => exact other _ (by simp only [q_xE_0, q_xE_1, q_xE_2, q_xE_3, q_xE_4, q_xE_5, q_xE_7, q_xE_8, q_xE_9, q_xE_10, q_xE_11, q_xE_12, q_xE_13, q_xE_14, q_xE_15, q_xE_16, q_xE_17, q_xE_18, q_xE_19]; rfl)
theorem handed_rd {z : Heap} {v : Value} {x : PyData} (r : Rd z v x) : handedIn v = true := by
  obtain ⟨⟨as, a⟩, _⟩ := r
  cases a <;> rfl
theorem handed_vr {z : Heap} {v : Value} {x : V} (r : VR z αs v x) : handedIn v = true := by
  cases x with
  | d x => exact handed_rd r
  | o k => obtain ⟨p, _, rfl⟩ := r; rfl
theorem FRel.find {z : Heap} {an : Nat → Str} {a : Nat} {v : V} (hi : ∀ b, an a = an b → a = b) : ∀ {es : List DictEntry} {fs : List (Nat × V)}, FRel z αs an es fs → fs.lookup a = some v → ∃ e, es.find? (·.key.isStr (an a)) = some e ∧ VR z αs e.val v
  | _, _, .nil, h => by simp at h
  | _, _, .cons (e := e) (t := t) (a := b) (v := u) (es := es) (fs := fs) q r s, h => by
    by_cases hb : a = b
    · subst hb
      simp only [List.lookup_cons, beq_self_eq_true, Option.some.injEq] at h
      subst h
      exact ⟨e, by rw [List.find?_cons, q]; simp [Value.isStr], r⟩
    · have h1 : (a == b) = false := by simpa using hb
      simp only [List.lookup_cons, h1] at h
      have hne : e.key.isStr (an a) = false := by
        rw [q]
        simp only [Value.isStr]
        rw [beq_eq_false_iff_ne]
        intro e'
        exact hb (hi b e'.symm)
      obtain ⟨e', f1, f2⟩ := FRel.find hi s h
      exact ⟨e', by rw [List.find?_cons, hne]; exact f1, f2⟩
set_option tactic.hygienic true in
theorem attr_val (C : Cok n lf c) (I : Inv c fr tb env vs αs σ s.heap) {a : Nat} {v : Value} {V : Mine.V} (R : VR (Fz (Wl c fr αs σ) s.heap) αs v V) (ha : (c.T.an a != ("" : Str)) = true)
    (hn : attrV (c.T.ak a) a V σ ≠ .stuck) {Q : Value → Shared → Prop} {E : Value → Shared → Prop} {expr : Bool}
    (hq : ∀ U, attrV (c.T.ak a) a V σ = .ok U σ → ∀ u tk, VR (Fz (Wl c fr αs σ) s.heap) αs u U → Q u { s with toks := tk }) :
    wpAny (model c.prog c.w) c.A (getAttr v (c.T.an a) expr) Q E s := by
  cases V with
  | d x => exact absurd rfl hn
  | o k =>
    obtain ⟨p, hp, rfl⟩ := R
    simp only [attrV] at hn hq
    split at hn
    · rename_i kk fs hc
      split at hn
      · rename_i u hl
        split at hn
        · rename_i hpl
          simp only [hc, hl, hpl, if_true] at hq
          obtain ⟨⟨g, f, hg⟩, hne, hi, es, m, hd, hr, hz⟩ := I.st.cell k p _ hp hc
          obtain ⟨cd, hcd, hhd, hga, hat, _⟩ := C.wd.clsF g kk f hg
          have han : c.T.an a ≠ ("" : Str) := by simpa using ha
          obtain ⟨e, he, hv⟩ := hr.find (fun b => fun q => C.wd.anI a b q han) hl
          have hK : c.K.In s.heap := C.wd.kin.keeps I.st.base
          have IA : InstAt s.heap p.1 (instObj (c.ca kk) p.2) (c.ca kk) (some { cls := .type "dict", data := .dict es m }) := ⟨hi, rfl, rfl, hd⟩
          have hlook : lookIn (c.T.an a) { cls := .type "dict", data := .dict es m } = some (some e.val) := by
            simp only [lookIn, he]
          refine get_value hK IA hga ?_ (handed_vr hv) (hq _ rfl e.val _ hv)
          unfold findObj
          rw [hcd, Option.bind_some, hat a hpl, Option.bind_some]
          simp only [Option.bind_some, W.ownOf, hhd, if_true, hlook]
        · exact absurd rfl hn
      · exact absurd rfl hn
    · exact absurd rfl hn
theorem sound_attr {x : X} (H : SoundX n lf Fo x) (a : Nat) (p : Pos) : SoundX n lf Fo (.attr x a p) := by
  intro c C fr sc tb env vs αs σ s Q E I G ok hn hq hx
  simp only [q_okX_9, Bool.and_eq_true] at ok
  simp only [q_ev_9] at hn hq hx
  simp only [q_xE_9]
  rw [arm_eval_Attribute]
  refine wpAny_bind (attr_base ok.1.2 (H.run C I G ok.1.1 rfl hn hx (fun V σ₁ v αs₁ h₁ t₁ hr I₁ N₁ R₁ _ => ?_)))
  rw [hr] at hn hq
  refine wpAny_bind (wpAny_standAt (wpAny_bind (wpAny_holding ?_)))
  exact attr_val (s := { s with heap := h₁, toks := t₁ }) C I₁ R₁ ok.2 hn (fun U e u tk R => wpAny_bind (wpAny_letTemporaryGo (wpAny_pure (hq _ _ e u αs₁ h₁ tk I₁ N₁ R))))
end
theorem meets_extend_any (l : Addr) (items : Array Value) (n : Nat) (b : Addr) (o : Obj) (items2 : Array Value) (n2 : Nat) (T : String) (hT : T = "list" ∨ T = "tuple") (hc : o.cls = .type T) (hd : o.data = .seq items2 n2) (hs : items.size + items2.size ≤ sizeLine) :
    Meets (Builtin.«list.extend» ⟨[.ref l, .ref b], []⟩) (fun _ R s => s.heap.get? l = some { cls := .type "list", dict := none, data := .seq items n, slots := #[] } ∧ s.heap.get? b = some o ∧ R (.ok (.ret Value.none)) { s with heap := s.heap.update l (Obj.mapSeq fun xs => xs ++ items2) }) :=
  .of_wp fun prog w A R s h => by
    obtain ⟨hp, g, d, tk, os⟩ := s; obtain ⟨hl, hb, h⟩ := h
    have hd1 : ¬(!items.isEmpty && Builtin.List.listTooLong (items.size + items2.size)) = true := by
      simp only [Builtin.List.listTooLong, Bool.and_eq_true, decide_eq_true_eq, not_and]
      intro _; omega
    have hz' : (items ++ items2).size ≤ sizeLine + 1 := by rw [Array.size_append]; omega
    have hz : items.size ≤ sizeLine := by omega
    have hTb : (⟨hp, g, d, tk, os⟩ : Shared).TypeIs (.ref b) T := ⟨_, hb, hc⟩
    unfold Builtin.«list.extend»
    refine wpAny_bind (m := selfAndOne "list.extend" _) (wpAny_pure ?_)
    show wpAny _ _ (Builtin.List.listExtendWith (.ref l) (.ref b) .none) _ _ _
    unfold Builtin.List.listExtendWith
    refine wpAny_bind (wpAny_typeOf hTb ?_)
    have h1 : (Builtin.List.listSameRef (.ref l) (.ref b) || Value.type T == Value.type "list" || Value.type T == Value.type "tuple") = true := by
      rcases hT with rfl | rfl <;> simp
    rw [if_pos h1]
    unfold Builtin.List.listItems
    refine wpAny_bind (wpAny_bind (wpAny_seqItems hb hd (wpAny_pure ?_)))
    refine wpAny_bind (wpAny_bind (wpAny_seqItems hl rfl (wpAny_pure ?_)))
    rw [if_neg hd1]
    refine wpAny_bind (m := Builtin.List.listUpdate _ _) (wpAny_updateSeq hl rfl (hz := hz) (_hz' := hz') ?_)
    exact wpAny_pure ⟨_, rfl, h⟩
theorem callWith_b {M : Model} {A : Around} {E : Value → Shared → Prop} {s : Shared} {pos : Pos} {id : String} {first : List Value} {trees : List (Bool × Sem Value)} {Q : Value → Shared → Prop} (hp : trees.any (·.1) = false)
    (h : wpAny M A (spliced trees) (fun vs s₁ => wpAny M A (call (.builtin id) (first ++ vs)) Q E s₁) E s) : wpAny M A (callWith pos (.builtin id) first trees []) Q E s := by
  refine Calls.callWith_builtin hp ?_
  cases trees with
  | nil =>
    have h' : wpAny M A (call (.builtin id) (first ++ [])) Q E s := fun Γ p hΓ => (h Γ p hΓ) Γ p hΓ
    exact PyProof.Rows.evalArgs_none h'
  | cons t r =>
    obtain ⟨b, x⟩ := t
    cases b with
    | true => simp at hp
    | false => exact Calls.evalArgs_plain h
theorem star_plain {T : Tab} {sc : Scope} {tb : List (Str × Nat)} {env : Env} {pos : Pos} : ∀ {xs : XL}, okL T sc tb xs = true → (backTo pos (starEach (xlE T tb xs) env)).any (·.1) = false ∧ (backTo pos (starEach (xlE T tb xs) env)).all (fun x => !x.1) = true ∧ (starEach (xlE T tb xs) env).length = xs.len
  | .nil, _ => ⟨rfl, rfl, rfl⟩
  | .cons x xs, h => by
    simp only [q_okL_1, Bool.and_eq_true] at h
    obtain ⟨a, b, c⟩ := star_plain (pos := pos) (xs := xs) h.2
    simp only [q_xlE_1]
    rw [star_x (ok_not_dead h.1)]
    refine ⟨?_, ?_, ?_⟩
    · show (false || (backTo pos (starEach (xlE T tb xs) env)).any (·.1)) = false
      rw [a]; rfl
    · show (true && (backTo pos (starEach (xlE T tb xs) env)).all (fun x => !x.1)) = true
      rw [b]; rfl
    · rw [List.length_cons, c, XL.len]
theorem xlE_len {T : Tab} {tb : List (Str × Nat)} : ∀ {xs : XL}, (xlE T tb xs).length = xs.len
  | .nil => rfl
  | .cons x xs => by simp only [q_xlE_1, List.length_cons, XL.len]; rw [xlE_len]
section
variable {n : Nat} {lf : Addr} {Fo : Orc} {c : Cx} {fr : List Addr} {sc : Scope} {tb : List (Str × Nat)} {env : Env} {vs : Vs} {αs αs' αs'' : List (Addr × Addr)} {σ σ' σ'' : Sg} {s : Shared} {h h' : Heap}
noncomputable abbrev Cx.deep (c : Cx) (fr : List Addr) : Cx := { c with amb := fr ++ c.amb }
noncomputable abbrev Cx.apart (c : Cx) (fr : List Addr) (αs : List (Addr × Addr)) (σ : Sg) : Cx := { c with amb := fr ++ (c.amb ++ liveL αs σ) }
theorem Cok.amb (C : Cok n lf c) (l : List Addr) : Cok n lf { c with amb := l } := ⟨C.rm, C.fm, ⟨C.wd.kin, C.wd.noLim, C.wd.sys, C.wd.anI, C.wd.clsF, C.wd.noDig, C.wd.glob, C.wd.setF, C.wd.lfN, C.wd.raise, C.wd.catch_, fun f fn e => let ⟨o, fd, F⟩ := C.wd.fns f fn e; ⟨o, fd, F.at_, F.data, F.body, F.clos, F.glob, F.blt, F.kind, F.co, F.gen, F.rec_, F.bind, F.okB, F.okT⟩, C.wd.tabE⟩⟩
theorem CellR.amb {z : Heap} {p : Addr × Addr} {cl : Cell} {l l' : List Addr} (r : CellR { c with amb := l } h z αs p cl) : CellR { c with amb := l' } h z αs p cl := by cases cl <;> exact r
theorem deep_W {b : Addr} : b ∈ Wl (c.deep fr) [] αs σ ↔ b ∈ Wl c fr αs σ := by
  rw [mem_Wl, mem_Wl]
  show b ∈ ([] : List Addr) ∨ b ∈ fr ++ c.amb ∨ _ ↔ _
  rw [List.mem_append]
  constructor
  · rintro (q | (q | q) | q)
    · cases q
    · exact .inl q
    · exact .inr (.inl q)
    · exact .inr (.inr q)
  · rintro (q | q | q)
    · exact .inr (.inl (.inl q))
    · exact .inr (.inl (.inr q))
    · exact .inr (.inr q)
theorem apart_W {b : Addr} : b ∈ Wl (c.apart fr αs σ) [] [] [] ↔ b ∈ Wl c fr αs σ := by
  unfold Wl
  show b ∈ [] ++ ((fr ++ (c.amb ++ liveL αs σ)) ++ liveL [] []) ↔ _
  simp [liveL]
theorem Fz_eq {W W' : List Addr} (e : ∀ b, b ∈ W ↔ b ∈ W') {b : Addr} {o : Obj} : (Fz W h).get? b = some o ↔ (Fz W' h).get? b = some o := by
  rw [fz_iff, fz_iff, e]
theorem VR.same {W W' : List Addr} (e : ∀ b, b ∈ W ↔ b ∈ W') {v : Value} {V : Mine.V} (r : VR (Fz W h) αs v V) : VR (Fz W' h) αs v V := r.mono (fun b o q => (Fz_eq e).mp q) ⟨[], by simp⟩
theorem VRs.same {W W' : List Addr} (e : ∀ b, b ∈ W ↔ b ∈ W') {us : List Value} {as : List Mine.V} (r : VRs (Fz W h) αs us as) : VRs (Fz W' h) αs us as :=
  ⟨r.1, fun i a q => let ⟨u, e1, e2⟩ := r.2 i a q; ⟨u, e1, e2.same e⟩⟩
theorem St.deep (S : St c fr αs σ h) : St (c.deep fr) [] αs σ h := by
  refine ⟨S.len, fun k p cl h1 h2 => ?_, S.ap1, fun k p cl h1 h2 a ha => ?_, fun a ha => (by cases ha), fun a ha => ?_, S.base, S.ff, fun L hL => ?_, fun a ha => ?_⟩
  · have := (S.cell k p cl h1 h2).keep (h' := h) (z' := Fz (Wl (c.deep fr) [] αs σ) h) (αs' := αs) (fun b o e => (Fz_eq fun b => deep_W).mpr e) (fun a _ o e => e) ⟨[], by simp⟩
    exact CellR.amb (l := c.amb) this
  · obtain ⟨x, y, z⟩ := S.ap2 k p cl h1 h2 a ha
    exact ⟨fun q => (by cases q), fun q => (List.mem_append.mp q).elim x y, z⟩
  · rcases ha with ha | ha
    · cases ha
    · exact S.ap4 a (List.mem_append.mp ha)
  · exact .inr (List.mem_append.mpr (S.frin L hL))
  · rcases ha with ha | ha
    · cases ha
    · exact S.thr a (List.mem_append.mp ha)
theorem St.aside (S : St c fr αs σ h) : St (c.apart fr αs σ) [] [] [] h := by
  refine ⟨rfl, fun k p cl h1 h2 => (by simp at h1), fun j k p q cl dl hn h1 => (by simp at h1), fun k p cl h1 => (by simp at h1), fun a ha => (by cases ha), fun a ha => ?_, S.base, S.ff, fun L hL => ?_, fun a ha => ?_⟩
  · rcases ha with ha | ha
    · cases ha
    · rcases List.mem_append.mp ha with q | q
      · exact S.ap4 a (.inl q)
      · rcases List.mem_append.mp q with q | q
        · exact S.ap4 a (.inr q)
        · obtain ⟨k, p, cl, h1, h2, _, h4⟩ := mem_liveL.mp q
          exact (S.ap2 k p cl h1 h2 a h4).2.2
  · exact .inr (List.mem_append.mpr ((S.frin L hL).imp id (fun q => List.mem_append.mpr (.inl q))))
  · rcases ha with ha | ha
    · cases ha
    · rcases List.mem_append.mp ha with q | q
      · exact S.thr a (.inl q)
      · rcases List.mem_append.mp q with q | q
        · exact S.thr a (.inr q)
        · obtain ⟨k, p, cl, h1, h2, _, h4⟩ := mem_liveL.mp q
          exact (S.cell k p cl h1 h2).there a h4
theorem back_nx (N : Nx (c.deep fr) [] αs σ h αs' σ' h') : Nx c fr αs σ h αs' σ' h' := by
  refine ⟨fun b o hb e => ?_, fun b hb o e => N.am b (List.mem_append.mpr (.inr hb)) o e, N.ext⟩
  obtain ⟨e1, e2⟩ := N.fz b o (fun q => hb (deep_W.mp q)) e
  exact ⟨e1, fun q => e2 (deep_W.mpr q)⟩
theorem Inv.back (I : Inv c fr tb env vs αs σ h) (N : Nx (c.deep fr) [] αs σ h αs' σ' h') (S : St (c.deep fr) [] αs' σ' h') : Inv c fr tb env vs αs' σ' h' := by
  refine ⟨⟨S.len, fun k p cl h1 h2 => ?_, S.ap1, fun k p cl h1 h2 a ha => ?_, I.st.ap3, I.st.ap4, S.base, S.ff, I.st.frin, fun a ha => ?_⟩, I.ek, I.fv.step I.ek (back_nx N) fun a ha o e => (N.am a (List.mem_append.mpr (.inl ha)) o e).1⟩
  · have := (S.cell k p cl h1 h2).keep (h' := h') (z' := Fz (Wl c fr αs' σ') h') (αs' := αs') (fun b o e => (Fz_eq fun b => deep_W).mp e) (fun a _ o e => e) ⟨[], by simp⟩
    exact CellR.amb (l' := c.amb) this
  · obtain ⟨x, y, z⟩ := S.ap2 k p cl h1 h2 a ha
    exact ⟨fun q => y (List.mem_append.mpr (.inl q)), fun q => y (List.mem_append.mpr (.inr q)), z⟩
  · exact S.thr a (.inr (List.mem_append.mpr ha))
theorem back_exn {e : Addr} {nt : Bool} {h'' : Heap} (X : Exn (c.deep fr) lf (Wl (c.deep fr) [] αs σ) h nt e h'') : Exn c lf (Wl c fr αs σ) h nt e h'' := by
  have un : ∀ {x : Addr}, Un (c.deep fr) (Wl (c.deep fr) [] αs σ) h x → Un c (Wl c fr αs σ) h x := fun u o ho =>
    let ⟨u1, u2⟩ := u o ho; ⟨deep_W.mp u1, fun q => u2 (List.mem_append.mpr (.inr q))⟩
  refine ⟨fun b o hb q => X.fz b o (fun q' => hb (deep_W.mp q')) q, fun b hb o q => X.am b (List.mem_append.mpr (.inr hb)) o q, X.ff, un X.un, X.base, ?_⟩
  obtain ⟨oe, vs, h1, h2, h3, h4, h5⟩ := X.ex
  refine ⟨oe, vs, h1, h2, h3, h4, ?_⟩
  rcases h5 with h5 | ⟨T, oT, ts, a1, a2, a3, a4, a5, a6, a7⟩
  · exact .inl h5
  · exact .inr ⟨T, oT, ts, a1, a2, a3, a4, a5, un a6, a7⟩
theorem aside_nx (S : St c fr αs σ h) (N : Nx (c.apart fr αs σ) [] [] [] h αs' σ' h') : Nx c fr αs σ h αs σ h' := by
  refine ⟨fun b o hb e => ?_, fun b hb o e => N.am b (List.mem_append.mpr (.inr (List.mem_append.mpr (.inl hb)))) o e, [], by simp⟩
  exact ⟨(N.fz b o (fun q => hb (apart_W.mp q)) e).1, hb⟩
theorem aside_sub {b : Addr} (h : b ∈ Wl c fr αs σ) : b ∈ Wl (c.apart fr αs σ) [] αs' σ' := by
  rw [mem_Wl]
  refine .inr (.inl ?_)
  show b ∈ fr ++ (c.amb ++ liveL αs σ)
  exact h
theorem Inv.beside (I : Inv c fr tb env vs αs σ h) (N : Nx (c.apart fr αs σ) [] [] [] h αs' σ' h') (S : St (c.apart fr αs σ) [] αs' σ' h') : Inv c fr tb env vs αs σ h' := by
  have N' := aside_nx I.st N
  have live : ∀ (k : Nat) (p : Addr × Addr) (cl : Cell), αs[k]? = some p → σ[k]? = some cl → ∀ a ∈ adr p cl, ∀ o, h.get? a = some o → h'.get? a = some o := by
    intro k p cl h1 h2 a ha o e
    obtain ⟨x, y, z⟩ := I.st.ap2 k p cl h1 h2 a ha
    by_cases hl : cl.live = true
    · refine (N.am a ?_ o e).2 fun q => ?_
      · show a ∈ fr ++ (c.amb ++ liveL αs σ)
        exact List.mem_append.mpr (.inr (List.mem_append.mpr (.inr (mem_liveL.mpr ⟨k, p, cl, h1, h2, hl, ha⟩))))
      · rcases I.st.frin a q with q' | q'
        · exact x q'
        · exact y q'
    · refine (N'.fz a o (fun hm => ?_) e).1
      rcases mem_Wl.mp hm with q | q | ⟨j, p', dl, g1, g2, g3, g4⟩
      · exact x q
      · exact y q
      · by_cases hj : j = k
        · subst hj
          rw [h2] at g2; cases g2
          exact hl g3
        · exact I.st.ap1 j k p' p dl cl hj g1 g2 h1 h2 a g4 a ha rfl
  refine ⟨⟨I.st.len, fun k p cl h1 h2 => (I.st.cell k p cl h1 h2).keep N'.z (live k p cl h1 h2) ⟨[], by simp⟩, I.st.ap1, I.st.ap2, I.st.ap3, I.st.ap4, S.base, S.ff, I.st.frin, fun a ha => ?_⟩, I.ek, I.fv.step I.ek N' fun a ha o e => (N.am a (List.mem_append.mpr (.inl ha)) o e).1⟩
  refine S.thr a (.inr ?_)
  show a ∈ fr ++ (c.amb ++ liveL αs σ)
  rcases ha with q | q
  · exact List.mem_append.mpr (.inl q)
  · exact List.mem_append.mpr (.inr (List.mem_append.mpr (.inl q)))
theorem aside_exn {e : Addr} {nt : Bool} {h'' : Heap} (X : Exn (c.apart fr αs σ) lf (Wl (c.apart fr αs σ) [] [] []) h nt e h'') : Exn c lf (Wl c fr αs σ) h nt e h'' := by
  have un : ∀ {x : Addr}, Un (c.apart fr αs σ) (Wl (c.apart fr αs σ) [] [] []) h x → Un c (Wl c fr αs σ) h x := fun u o ho =>
    let ⟨u1, u2⟩ := u o ho; ⟨apart_W.mp u1, fun q => u2 (List.mem_append.mpr (.inr (List.mem_append.mpr (.inl q))))⟩
  refine ⟨fun b o hb q => X.fz b o (fun q' => hb (apart_W.mp q')) q, fun b hb o q => X.am b (List.mem_append.mpr (.inr (List.mem_append.mpr (.inl hb)))) o q, X.ff, un X.un, X.base, ?_⟩
  obtain ⟨oe, vs, h1, h2, h3, h4, h5⟩ := X.ex
  refine ⟨oe, vs, h1, h2, h3, h4, ?_⟩
  rcases h5 with h5 | ⟨T, oT, ts, a1, a2, a3, a4, a5, a6, a7⟩
  · exact .inl h5
  · exact .inr ⟨T, oT, ts, a1, a2, a3, a4, a5, un a6, a7⟩
structure CokO (n : Nat) (lf : Addr) (c : Cx) : Prop where
  hd : c.A.handled = none
  gu : c.A.guards = some []
  dp : c.A.depth + 4 * n + 2 ≤ 900
  un : c.A.units + 40 * n + 370 ≤ 5000
  fm : c.A.frames = some c.frs
  wd : Wd lf c
theorem Cok.toO (C : Cok n lf c) : CokO n lf c := ⟨C.rm.hd, C.rm.gu, by have := C.rm.dp; omega, by have := C.rm.un; omega, C.fm, C.wd⟩
theorem CokO.amb (C : CokO n lf c) (l : List Addr) : CokO n lf { c with amb := l } := ⟨C.hd, C.gu, C.dp, C.un, C.fm, ⟨C.wd.kin, C.wd.noLim, C.wd.sys, C.wd.anI, C.wd.clsF, C.wd.noDig, C.wd.glob, C.wd.setF, C.wd.lfN, C.wd.raise, C.wd.catch_, fun f fn e => let ⟨o, fd, F⟩ := C.wd.fns f fn e; ⟨o, fd, F.at_, F.data, F.body, F.clos, F.glob, F.blt, F.kind, F.co, F.gen, F.rec_, F.bind, F.okB, F.okT⟩, C.wd.tabE⟩⟩
noncomputable def OrcOK (n : Nat) (lf : Addr) (Fo : Orc) : Prop :=
  ∀ (c : Cx), CokO n lf c → ∀ (αs : List (Addr × Addr)) (σ : Sg) (s : Shared) (f : Nat) (as : List V) (us : List Value) (R : Result → Shared → Prop),
    St c [] αs σ s.heap → VRs (Fz (Wl c [] αs σ) s.heap) αs us as → Fo f as σ ≠ .stuck →
    (∀ V σ', Fo f as σ = .ok V σ' → ∀ v αs' h' tk, St c [] αs' σ' h' → Nx c [] αs σ s.heap αs' σ' h' → VR (Fz (Wl c [] αs' σ') h') αs' v V → R (.ok (.ret v)) { s with heap := h', toks := tk }) →
    (Fo f as σ = .ex → ∀ nt e h' tk, Exn c lf (Wl c [] αs σ) s.heap nt e h' → R (.error (.ref e)) { s with heap := h', toks := tk }) →
    codeAny (model c.prog c.w) c.A (.call (.ref (c.fa f)) ⟨us, []⟩) R s
theorem OrcOK.runR (O : OrcOK n lf Fo) {A : Around} (C : CokO n lf { c with A := A }) (I : Inv c fr tb env vs αs σ s.heap) {f : Nat} {as : List V} {us : List Value} (R : VRs (Fz (Wl c fr αs σ) s.heap) αs us as) (hn : Fo f as σ ≠ .stuck) {Rr : Result → Shared → Prop}
    (hq : ∀ V σ', Fo f as σ = .ok V σ' → ∀ v αs' h' tk, Inv c fr tb env vs αs' σ' h' → Nx c fr αs σ s.heap αs' σ' h' → VR (Fz (Wl c fr αs' σ') h') αs' v V → Rr (.ok (.ret v)) { s with heap := h', toks := tk })
    (hx : Fo f as σ = .ex → ∀ nt e h' tk, Exn c lf (Wl c fr αs σ) s.heap nt e h' → Rr (.error (.ref e)) { s with heap := h', toks := tk }) : codeAny (model c.prog c.w) A (.call (.ref (c.fa f)) ⟨us, []⟩) Rr s := by
  obtain ⟨e₀, outer, L, g1, g2, g3⟩ := I.ek.frame
  have cell : ∀ {h z : Heap} {αs : List (Addr × Addr)} {p : Addr × Addr} {cl : Cell} {c : Cx} {A : Around}, CellR c h z αs p cl → CellR { c with A := A } h z αs p cl := by
    intro h z αs p cl c A r; cases cl <;> exact r
  have cell' : ∀ {h z : Heap} {αs : List (Addr × Addr)} {p : Addr × Addr} {cl : Cell} {c : Cx} {A : Around}, CellR { c with A := A } h z αs p cl → CellR c h z αs p cl := by
    intro h z αs p cl c A r; cases cl <;> exact r
  have S := I.st.deep
  have S1 : St { c.deep fr with A := A } [] αs σ s.heap := ⟨S.len, fun k p cl h1 h2 => cell (S.cell k p cl h1 h2), S.ap1, S.ap2, S.ap3, S.ap4, S.base, S.ff, S.frin, S.thr⟩
  refine O { c.deep fr with A := A } (CokO.amb C _) αs σ s f as us Rr S1 (R.same fun b => deep_W.symm) hn (fun V σ' e v αs' h' tk S N r => ?_) (fun e nt x h' tk X => ?_)
  · have S2 : St (c.deep fr) [] αs' σ' h' := ⟨S.len, fun k p cl h1 h2 => cell' (S.cell k p cl h1 h2), S.ap1, S.ap2, S.ap3, S.ap4, S.base, S.ff, S.frin, S.thr⟩
    have N2 : Nx (c.deep fr) [] αs σ s.heap αs' σ' h' := ⟨N.fz, N.am, N.ext⟩
    exact hq V σ' e v αs' h' tk (I.back N2 S2) (back_nx N2) (r.same fun b => deep_W)
  · have X2 : Exn (c.deep fr) lf (Wl (c.deep fr) [] αs σ) s.heap nt x h' := ⟨X.fz, X.am, X.ff, X.un, X.base, X.ex⟩
    exact hx e nt x h' tk (back_exn X2)
theorem OrcOK.run (O : OrcOK n lf Fo) (C : Cok n lf c) (I : Inv c fr tb env vs αs σ s.heap) {f : Nat} {as : List V} {us : List Value} (R : VRs (Fz (Wl c fr αs σ) s.heap) αs us as) (hn : Fo f as σ ≠ .stuck) {Q : Value → Shared → Prop} {E : Value → Shared → Prop}
    (hq : ∀ V σ', Fo f as σ = .ok V σ' → ∀ v αs' h' tk, Inv c fr tb env vs αs' σ' h' → Nx c fr αs σ s.heap αs' σ' h' → VR (Fz (Wl c fr αs' σ') h') αs' v V → Q v { s with heap := h', toks := tk })
    (hx : HX c lf fr αs σ s (Fo f as σ) E) : wpAny (model c.prog c.w) c.A (call (.ref (c.fa f)) us) Q E s :=
  wpAny_call (O.runR (c := c) (A := c.A) C.toO I R hn hq hx)
theorem OrcOK.runD (O : OrcOK n lf Fo) (C : Cok n lf c) (I : Inv c fr tb env vs αs σ s.heap) {f : Nat} {as : List V} {us : List Value} (R : VRs (Fz (Wl c fr αs σ) s.heap) αs us as) (hd : as.any isObj = false) (hn : Fo f as [] ≠ .stuck) {Q : Value → Shared → Prop} {E : Value → Shared → Prop}
    (hq : ∀ V σ', Fo f as [] = .ok V σ' → ∀ v h' tk, Inv c fr tb env vs αs σ h' → Nx c fr αs σ s.heap αs σ h' → (∀ x, V = .d x → Rd (Fz (Wl c fr αs σ) h') v x) → Q v { s with heap := h', toks := tk })
    (hx : HX c lf fr αs σ s (Fo f as []) E) : wpAny (model c.prog c.w) c.A (call (.ref (c.fa f)) us) Q E s := by
  obtain ⟨e₀, outer, L, g1, g2, g3⟩ := I.ek.frame
  have R' : VRs (Fz (Wl (c.apart fr αs σ) [] [] []) s.heap) [] us as := ⟨R.1, fun i a e => by
    obtain ⟨u, e1, e2⟩ := R.2 i a e
    cases a with
    | d x => exact ⟨u, e1, Rd.keeps e2 fun b o q => (Fz_eq fun b => apart_W).mpr q⟩
    | o k =>
      have : as.any isObj = true := List.any_eq_true.mpr ⟨_, List.mem_of_getElem? e, rfl⟩
      rw [hd] at this; cases this⟩
  exact wpAny_call (O (c.apart fr αs σ) (C.toO.amb _) [] [] s f as us _ I.st.aside R' hn
    (fun V σ' e v αs' h' tk S N r => hq V σ' e v h' tk (I.beside N S) (aside_nx I.st N) (fun x hx => by
      subst hx
      exact Rd.keeps r fun b o q => by
        obtain ⟨q1, q2⟩ := fz_iff.mp q
        exact fz_iff.mpr ⟨q1, fun hm => q2 (aside_sub hm)⟩)) (fun e nt x h' tk X => hx e nt x h' tk (aside_exn X)))
theorem OrcOK.callF (O : OrcOK n lf Fo) (C : Cok n lf c) (I : Inv c fr tb env vs αs σ s.heap) {f : Nat} {inl : Bool} {as : List V} {us : List Value} (R : VRs (Fz (Wl c fr αs σ) s.heap) αs us as) (hn : callF Fo f inl as σ ≠ .stuck) {Q : Value → Shared → Prop} {E : Value → Shared → Prop}
    (hq : ∀ V σ', Mine.callF Fo f inl as σ = .ok V σ' → ∀ v αs' h' tk, Inv c fr tb env vs αs' σ' h' → Nx c fr αs σ s.heap αs' σ' h' → VR (Fz (Wl c fr αs' σ') h') αs' v V → Q v { s with heap := h', toks := tk })
    (hx : HX c lf fr αs σ s (Mine.callF Fo f inl as σ) E) : wpAny (model c.prog c.w) c.A (call (.ref (c.fa f)) us) Q E s := by
  unfold Mine.callF at hn hq hx
  by_cases hm : (inl || as.any isObj) = true
  · simp only [hm, if_true] at hn hq hx
    exact O.run C I R hn hq hx
  · simp only [hm, if_false, Bool.false_eq_true] at hn hq hx
    have hd : as.any isObj = false := by
      cases h1 : as.any isObj with
      | false => rfl
      | true => rw [h1] at hm; simp at hm
    refine O.runD C I R hd (fun e => by rw [e] at hn; exact hn rfl) (fun V σ' e v h' tk I' N' r => ?_) (fun e => hx (by rw [e]))
    rw [e] at hn hq
    cases V with
    | o k => exact absurd rfl hn
    | d x => exact hq _ _ rfl v αs h' tk I' N' (r x rfl)
end
section
variable {n : Nat} {lf : Addr} {Fo : Orc} {c : Cx} {fr : List Addr} {sc : Scope} {tb : List (Str × Nat)} {env : Env} {vs : Vs} {αs : List (Addr × Addr)} {σ : Sg} {s : Shared}
theorem meth_open {M : Model} {A : Around} {o : PySem.Expr} {nm : Str} {apos pos : Pos} {ov f : Value} {first : List Value} {k : Nat} {trees : List (Bool × Sem Value)} {Q : Value → Shared → Prop} {E : Value → Shared → Prop}
    (hform : methodCallForm k trees [] = true) (hline : (apos.endLine == pos.line) = true) (hget : ∀ (Q : Value × List Value → Shared → Prop) (pl : Sem Bool), Q (f, first) s → wpAny M A (getMethod ov nm pl) Q E s)
    (h : wpAny M A (callWith pos f first trees []) Q E s) : wpAny M A (methodCall o nm apos pos env ov k trees []) Q E s := by
  have hpos : methodCallPos true o env apos pos = pure pos := by unfold methodCallPos; simp [hline]
  unfold methodCall
  rw [hform]
  refine wpAny_bind (wpAny_holding (hget _ _ ?_))
  exact wpAny_bind (wpAny_of_eq hpos h)
theorem form_ok {T : Tab} {sc : Scope} {xs : XL} {p : Pos} (h : okL T sc tb xs = true) (hl : xs.len ≤ 10) : methodCallForm ((xlE T tb xs).length + ([] : List Keyword).length) (backTo p (starEach (xlE T tb xs) env)) (backToKw p (keywordEach [] env)) = true := by
  show ((backTo p (starEach (xlE T tb xs) env)).all (fun x => !x.1) && ([] : List (Option Str × Sem Value)).all (fun x => x.1.isSome) && decide ((xlE T tb xs).length + ([] : List Keyword).length + (if ([] : List (Option Str × Sem Value)).isEmpty then 0 else 1) < 30)) = true
  rw [(star_plain (pos := p) h).2.1, xlE_len]
  simp; omega
noncomputable def GetM (c : Cx) (E : Value → Shared → Prop) (s : Shared) (v f : Value) (nm : Str) : Prop := ∀ (Q : Value × List Value → Shared → Prop) (pl : Sem Bool), Q (f, [v]) s → wpAny (model c.prog c.w) c.A (getMethod v nm pl) Q E s
section
variable {v : Value} {V : Mine.V} {E : Value → Shared → Prop} {nm : Str} {id : String}
theorem g_lst (I : Inv c fr tb env vs αs σ s.heap) (R : VR (Fz (Wl c fr αs σ) s.heap) αs v V) (h : isC cLst V σ = true) (sl : Slot "list" nm id) (ty : typeOf (.builtin id) = pure (.type "method_descriptor")) : GetM c E s v (.builtin id) nm :=
  isC_e h fun k cl e hc hf => by
    subst e
    refine cLst_e (fun cl => σ[k]? = some cl → GetM c E s v (.builtin id) nm) hf (fun ds hc => ?_) hc
    obtain ⟨p, hp, rfl⟩ := R
    obtain ⟨ws, ⟨m, hv⟩, r⟩ := I.st.cell k p _ hp hc
    exact fun Q pl q => getMethod_builtin ⟨_, hv, rfl⟩ PySem.F.plainAttrs_list sl ty (fun a e => by cases e; exact ⟨_, hv, rfl⟩) q
theorem g_dct (I : Inv c fr tb env vs αs σ s.heap) (R : VR (Fz (Wl c fr αs σ) s.heap) αs v V) (h : isC cDct V σ = true) : GetM c E s v (.builtin "dict.get") "get" :=
  isC_e h fun k cl e hc hf => by
    subst e
    refine cDct_e (fun cl => σ[k]? = some cl → GetM c E s v (.builtin "dict.get") "get") hf (fun ds hc => ?_) hc
    obtain ⟨p, hp, rfl⟩ := R
    obtain ⟨kv, hd, r⟩ := I.st.cell k p _ hp hc
    have hT := hd.typeIs (s := s)
    obtain ⟨o, es, ep, ho, hex, _⟩ := hd
    exact fun Q pl q => getMethod_builtin hT PySem.F.plainAttrs_dict PySem.F.slot_dict_get PySem.F.type_dict_get (fun a e => by cases e; exact ⟨_, ho, hex.2.1⟩) q
theorem g_str (R : VR (Fz (Wl c fr αs σ) s.heap) αs v V) (h : isSt V = true) (sl : Slot "str" nm id) (ty : typeOf (.builtin id) = pure (.type "method_descriptor")) : GetM c E s v (.builtin id) nm := by
  refine isSt_e (fun V => VR (Fz (Wl c fr αs σ) s.heap) αs v V → GetM c E s v (.builtin id) nm) h (fun x R => ?_) R
  obtain ⟨t, rfl⟩ := Rd.str R
  exact fun Q pl q => getMethod_builtin (typeIs_str _ _ _) PySem.F.plainAttrs_str sl ty (fun a e => by cases e) q
set_option tactic.hygienic true in
theorem no_own {z : Heap} {an : Nat → Str} {a : Nat} (anI : ∀ b, an b = an a → (a == b) = true) {es : List DictEntry} {fs : List (Nat × Mine.V)} (r : FRel z αs an es fs) (hl : (fs.lookup a).isNone = true) : es.find? (·.key.isStr (an a)) = none ∧ es.any (·.refKey) = false := by
  induction r with
  | nil => exact ⟨rfl, rfl⟩
  | cons q r1 r2 ih =>
    rename_i e t b u es' fs'
    have hb : (a == b) = false := by
      cases hab : a == b with
      | false => rfl
      | true => rw [List.lookup_cons, hab] at hl; cases hl
    rw [List.lookup_cons, hb] at hl
    obtain ⟨i1, i2⟩ := ih hl
    have hne : e.key.isStr (an a) = false := by
      rw [q]
      refine beq_eq_false_iff_ne.mpr fun e' => ?_
      have := anI b e'
      rw [hb] at this; cases this
    refine ⟨by rw [List.find?_cons, hne]; exact i1, ?_⟩
    rw [List.any_cons, i2, Bool.or_false]
    unfold DictEntry.refKey
    rw [q]
theorem g_own (C : Cok n lf c) (I : Inv c fr tb env vs αs σ s.heap) (R : VR (Fz (Wl c fr αs σ) s.heap) αs v V) {kk f a : Nat} (hk : c.T.ak a = .own kk f) (h : isC (cIns kk a) V σ = true) (han : c.T.an a ≠ ("" : Str)) : keepIn c.K (.ref (c.fa f)) = true ∧ GetM c E s v (.ref (c.fa f)) (c.T.an a) :=
  isC_e h fun k cl e hc hf => by
    subst e
    refine cIns_e (fun cl => σ[k]? = some cl → keepIn c.K (.ref (c.fa f)) = true ∧ GetM c E s v (.ref (c.fa f)) (c.T.an a)) hf (fun fs hl hc => ?_) hc
    obtain ⟨p, hp, rfl⟩ := R
    obtain ⟨⟨g, f', hg⟩, hne, hi, es, m, hd, hr', hz⟩ := I.st.cell k p _ hp hc
    obtain ⟨cd, hcd, hhd, hga, hat, hgt, hown⟩ := C.wd.clsF g kk f' hg
    obtain ⟨h1, h2, h3⟩ := hown a f hk
    have hK : c.K.In s.heap := C.wd.kin.keeps I.st.base
    have IA : W.InstAt s.heap p.1 (instObj (c.ca kk) p.2) (c.ca kk) (some { cls := .type "dict", data := .dict es m }) := ⟨hi, rfl, rfl, hd⟩
    obtain ⟨n1, n2⟩ := no_own (fun b e => beq_iff_eq.mpr (C.wd.anI a b e.symm han)) hr' hl
    refine ⟨h3, fun Q pl q => W.method_fn hK IA hga hgt h1 h2 ?_ q⟩
    simp only [shadowIn, lookIn, n1, n2]
    rfl
end
noncomputable def akId : AK → Option String
  | .append => some "list.append"
  | .extend => some "list.extend"
  | .pop => some "list.pop"
  | .get => some "dict.get"
  | .split => some "str.split"
  | .count => some "str.count"
  | _ => none
set_option tactic.hygienic true in
theorem recv_ok (C : Cok n lf c) (I : Inv c fr tb env vs αs σ s.heap) {a : Nat} {v : Value} {V : Mine.V} (R : VR (Fz (Wl c fr αs σ) s.heap) αs v V) (hr : okRecv (c.T.ak a) a V σ = true) (hnm : akName (c.T.ak a) (c.T.an a) = true) {E : Value → Shared → Prop} :
    (∃ id, GetM c E s v (.builtin id) (c.T.an a) ∧ akId (c.T.ak a) = some id) ∨
    (∃ k f, c.T.ak a = .own k f ∧ keepIn c.K (.ref (c.fa f)) = true ∧ GetM c E s v (.ref (c.fa f)) (c.T.an a)) := by
  cases hk : c.T.ak a with
  | append => rw [hk] at hr hnm; rw [(beq_iff_eq.mp hnm : c.T.an a = "append")]; exact .inl ⟨_, g_lst I R hr PySem.F.slot_list_append PySem.F.type_list_append, rfl⟩
  | extend => rw [hk] at hr hnm; rw [(beq_iff_eq.mp hnm : c.T.an a = "extend")]; exact .inl ⟨_, g_lst I R hr PySem.F.slot_list_extend PySem.F.type_list_extend, rfl⟩
  | pop => rw [hk] at hr hnm; rw [(beq_iff_eq.mp hnm : c.T.an a = "pop")]; exact .inl ⟨_, g_lst I R hr PySem.F.slot_list_pop PySem.F.type_list_pop, rfl⟩
  | get => rw [hk] at hr hnm; rw [(beq_iff_eq.mp hnm : c.T.an a = "get")]; exact .inl ⟨_, g_dct I R hr, rfl⟩
  | split => rw [hk] at hr hnm; rw [(beq_iff_eq.mp hnm : c.T.an a = "split")]; exact .inl ⟨_, g_str R hr PySem.F.slot_str_split PySem.F.type_str_split, rfl⟩
  | count => rw [hk] at hr hnm; rw [(beq_iff_eq.mp hnm : c.T.an a = "count")]; exact .inl ⟨_, g_str R hr PySem.F.slot_str_count PySem.F.type_str_count, rfl⟩
  | plain => rw [hk] at hr; cases hr
  | own kk f =>
    rw [hk] at hr hnm
    obtain ⟨h1, h2⟩ := g_own (E := E) C I R hk hr (bne_iff_ne.mp hnm)
    exact .inr ⟨kk, f, rfl, h1, h2⟩
end
section
variable {n : Nat} {lf : Addr} {Fo : Orc} {c : Cx} {fr : List Addr} {sc : Scope} {tb : List (Str × Nat)} {env : Env} {vs : Vs} {αs : List (Addr × Addr)} {σ : Sg} {s : Shared}
theorem mapSeq_plain (f : Array Value → Array Value) (its : Array Value) (n : Nat) : ∃ m, Obj.mapSeq f { cls := .type "list", data := .seq its n } = { cls := .type "list", data := .seq (f its) m } := ⟨_, by simp [Obj.mapSeq]; rfl⟩
theorem plain_update {h : Heap} {l : Addr} {its : Array Value} {n : Nat} (f : Array Value → Array Value) (e : h.get? l = some { cls := .type "list", data := .seq its n }) : (h.update l (Obj.mapSeq f)).PlainList l (f its) := by
  obtain ⟨m, q⟩ := mapSeq_plain f its n
  refine ⟨m, ?_⟩
  rw [Heap.get?_update_self _ e (by rw [q]; rfl), q]
theorem lst_upd {h h' : Heap} (I : Inv c fr tb env vs αs σ h) {k : Nat} {p : Addr × Addr} {ds ds' : List PyData} {ws : Array Value} (hp : αs[k]? = some p) (hc : σ[k]? = some (.lst false ds)) (hl : h'.PlainList p.1 ws) (hb : Heap.SameBut p.1 h h')
    (hr : ∀ z : Heap, (∀ b o, (Fz (Wl c fr αs σ) h).get? b = some o → z.get? b = some o) → RdA z ws.toList ds') : Inv c fr tb env vs αs (σ.set k (.lst false ds')) h' ∧ Nx c fr αs σ h αs (σ.set k (.lst false ds')) h' := by
  have kb : ∀ b o, b ≠ p.1 → h.get? b = some o → h'.get? b = some o := fun b o hn e => (hb.2 b hn).trans e
  exact ⟨I.upd hp hc rfl rfl rfl (a := p.1) (by simp [adr]) kb (fun kz => ⟨ws, hl, hr _ kz⟩), St.upd_nx I.st hp hc rfl rfl rfl (a := p.1) (by simp [adr]) kb⟩
theorem last_get {ds : List PyData} {x : PyData} (h : ds.getLast? = some x) : ds[ds.length - 1]? = some x := by rw [← h, List.getLast?_eq_getElem?]
theorem erase_last (ws : Array Value) : (ws.eraseIdxIfInBounds (ws.size - 1)).toList = ws.toList.dropLast := by
  by_cases h : ws.size = 0
  · have : ws = #[] := Array.eq_empty_of_size_eq_zero h
    subst this; rfl
  · unfold Array.eraseIdxIfInBounds
    have h0 := Nat.pos_of_ne_zero h
    rw [dif_pos (Nat.sub_lt h0 (by decide)), Array.toList_eraseIdx, List.eraseIdx_eq_dropLast (by rw [Array.length_toList]; exact Nat.sub_add_cancel h0)]
noncomputable def MethOK (lf : Addr) (Fo : Orc) (c : Cx) (fr : List Addr) (tb : List (Str × Nat)) (env : Env) (vs : Vs) (αs : List (Addr × Addr)) (σ : Sg) (s : Shared) (ak : AK) (V : Mine.V) (as : List Mine.V) (f v : Value) (us : List Value) : Prop :=
  ∀ (Q : Value → Shared → Prop) (E : Value → Shared → Prop), (∀ U σ', methV Fo ak V as σ = .ok U σ' → ∀ u αs' h' tk, Inv c fr tb env vs αs' σ' h' → Nx c fr αs σ s.heap αs' σ' h' → VR (Fz (Wl c fr αs' σ') h') αs' u U → Q u { s with heap := h', toks := tk }) →
    HX c lf fr αs σ s (methV Fo ak V as σ) E → wpAny (model c.prog c.w) c.A (call f (v :: us)) Q E s
section
variable {v : Value} {V : Mine.V} {us : List Value} {as : List Mine.V}
theorem u_o (P : Mine.V → Value → Prop) (R : VR (Fz (Wl c fr αs σ) s.heap) αs v V) {α : Type} {g : Nat → Out α} (h : atO V g ≠ .stuck) (k : ∀ k p, αs[k]? = some p → g k ≠ .stuck → P (.o k) (.ref p.1)) : P V v :=
  atO_e (fun V => VR (Fz (Wl c fr αs σ) s.heap) αs v V → P V v) h (fun i h R => R.elim fun p hp => hp.2 ▸ k i p hp.1 h) R
theorem u_x (P : Mine.V → Value → Prop) (R : VR (Fz (Wl c fr αs σ) s.heap) αs v V) {α : Type} {g : PyData → Out α} (h : atX V g ≠ .stuck) (k : ∀ x u, Rd (Fz (Wl c fr αs σ) s.heap) u x → g x ≠ .stuck → P (.d x) u) : P V v :=
  atX_e (fun V => VR (Fz (Wl c fr αs σ) s.heap) αs v V → P V v) h (fun i h R => k i v R h) R
theorem u_c (P : List Mine.V → List Value → Prop) (Rs : VRs (Fz (Wl c fr αs σ) s.heap) αs us as) {α : Type} {g : PyData → List Mine.V → Out α} (h : atC as g ≠ .stuck) (k : ∀ x r u w, Rd (Fz (Wl c fr αs σ) s.heap) u x → VRs (Fz (Wl c fr αs σ) s.heap) αs w r → g x r ≠ .stuck → P (.d x :: r) (u :: w)) : P as us :=
  atC_e (fun as => VRs (Fz (Wl c fr αs σ) s.heap) αs us as → P as us) h (fun x r h Rs => by
    obtain ⟨u, w, rfl, ru, rr⟩ := Rs.uncons
    exact k x r u w ru rr h) Rs
theorem u_0 (P : List Mine.V → List Value → Prop) (Rs : VRs (Fz (Wl c fr αs σ) s.heap) αs us as) {α : Type} {g : Out α} (h : at0 as g ≠ .stuck) (k : g ≠ .stuck → P [] []) : P as us :=
  at0_e (fun as => VRs (Fz (Wl c fr αs σ) s.heap) αs us as → P as us) h (fun h Rs => by
    obtain rfl := Rs.left_nil
    exact k h) Rs
theorem u_s (P : PyData → Value → Prop) {x : PyData} {u : Value} (R : Rd (Fz (Wl c fr αs σ) s.heap) u x) {α : Type} {g : Str → Out α} (h : atS x g ≠ .stuck) (k : ∀ x t, Rd (Fz (Wl c fr αs σ) s.heap) (.str x t) (.str x) → g x ≠ .stuck → P (.str x) (.str x t)) : P x u :=
  atS_e (fun x => Rd (Fz (Wl c fr αs σ) s.heap) u x → P x u) h (fun x h R => by
    have R' := R
    obtain ⟨t, rfl⟩ := Rd.str R
    exact k x t R' h) R
section
variable (I : Inv c fr tb env vs αs σ s.heap)
include I
theorem m_append {k : Nat} {p : Addr × Addr} {x : PyData} {u : Value} (hp : αs[k]? = some p) (ru : Rd (Fz (Wl c fr αs σ) s.heap) u x) (hn : methV Fo .append (.o k) [.d x] σ ≠ .stuck) : MethOK lf Fo c fr tb env vs αs σ s .append (.o k) [.d x] (.builtin "list.append") (.ref p.1) [u] :=
  atL_e hn fun ds hc hn e Q E hq _ => by
    obtain ⟨hz, e'⟩ := if_inv hn
    obtain ⟨ws, hw, r⟩ := I.st.cell k p _ hp hc
    have q := size_of r
    refine wpAny_list_append_plain hw (fun h' hl hs => ?_) (by rw [q, sizeLine_eq]; omega)
    obtain ⟨I₂, N₂⟩ := lst_upd I hp hc hl hs (ds' := ds ++ [x]) (fun z kz => by rw [Array.toList_push]; exact (r.keeps kz).append (.one (Rd.keeps ru kz)))
    exact hq _ _ (e.trans e') _ αs h' _ I₂ N₂ rd_none
theorem m_extend {k : Nat} {p : Addr × Addr} {x : PyData} {u : Value} (hp : αs[k]? = some p) (ru : Rd (Fz (Wl c fr αs σ) s.heap) u x) (hn : methV Fo .extend (.o k) [.d x] σ ≠ .stuck) : MethOK lf Fo c fr tb env vs αs σ s .extend (.o k) [.d x] (.builtin "list.extend") (.ref p.1) [u] :=
  atL_e hn fun ds hc hn e => atJ_e hn fun es hi hn e2 Q E hq _ => by
    obtain ⟨hz, e'⟩ := if_inv hn
    obtain ⟨ws, ⟨m, hw⟩, r⟩ := I.st.cell k p _ hp hc
    obtain ⟨b, o, ws2, m2, rfl, ho, hcl, hd, r2⟩ := rd_seq I (u := .d x) ru rfl hi
    have hcT : ∃ T, (T = "list" ∨ T = "tuple") ∧ o.cls = .type T := hcl.elim (fun h => ⟨_, .inl rfl, h.2⟩) (fun h => ⟨_, .inr rfl, h.2⟩)
    obtain ⟨T, hT, hct⟩ := hcT
    have q := size_of r
    have q2 := size_of r2
    refine call_meets PySem.F.slot_list_extend ⟨_, hw, rfl⟩ PySem.F.entry_list_extend (PySem.F.args_list_extend_2 _ _) (meets_extend_any p.1 ws m b o ws2 m2 T hT hct hd (by rw [q, q2, sizeLine_eq]; omega)) ⟨hw, ho, ?_⟩
    obtain ⟨I₂, N₂⟩ := lst_upd I hp hc (plain_update (fun xs => xs ++ ws2) hw) (Heap.SameBut.update ..) (ds' := ds ++ es) (fun z kz => by rw [Array.toList_append]; exact (r.keeps kz).append (r2.keeps kz))
    exact hq _ _ (e.trans (e2.trans e')) _ αs _ _ I₂ N₂ rd_none
theorem m_pop {k : Nat} {p : Addr × Addr} (hp : αs[k]? = some p) (hn : methV Fo .pop (.o k) [] σ ≠ .stuck) : MethOK lf Fo c fr tb env vs αs σ s .pop (.o k) [] (.builtin "list.pop") (.ref p.1) [] :=
  atL_e hn fun ds hc hn e => atJ_e hn fun x hl hn e2 Q E hq _ => by
    obtain ⟨hz, e'⟩ := if_inv hn
    have hz := of_decide_eq_true hz
    obtain ⟨ws, ⟨m, hw⟩, r⟩ := I.st.cell k p _ hp hc
    have hsz := size_of r
    obtain ⟨y, hy, ry⟩ := r.get (last_get hl)
    refine call_meets PySem.F.slot_list_pop ⟨_, hw, rfl⟩ PySem.F.entry_list_pop (PySem.F.args_list_pop_1 _) (PySem.MeetsSeq.list_pop_last p.1 ws m y (by rw [hsz]; exact (Array.getElem?_toList).symm.trans hy) (by rw [hsz, sizeLine_eq]; omega)) ⟨hw, ?_⟩
    have N₀ := r.length
    obtain ⟨I₂, N₂⟩ := lst_upd I hp hc (plain_update (fun xs => xs.eraseIdxIfInBounds (ws.size - 1)) hw) (Heap.SameBut.update ..) (ds' := ds.dropLast) (fun z kz => by
      rw [erase_last, List.dropLast_eq_take, List.dropLast_eq_take, N₀]
      exact (r.keeps kz).take _)
    exact hq _ _ (e.trans (e2.trans e')) _ αs _ s.toks I₂ N₂ (N₂.rd ry)
theorem m_get (C : Cok n lf c) {k : Nat} {p : Addr × Addr} {x : Str} {t : Tok} {y : PyData} {u : Value} (hp : αs[k]? = some p) (ru2 : Rd (Fz (Wl c fr αs σ) s.heap) u y) (hn : methV Fo .get (.o k) [.d (.str x), .d y] σ ≠ .stuck) : MethOK lf Fo c fr tb env vs αs σ s .get (.o k) [.d (.str x), .d y] (.builtin "dict.get") (.ref p.1) [.str x t, u] :=
  atD_e hn fun kvs hc hn e Q E hq _ => by
    obtain ⟨kv, hd, r⟩ := I.st.cell k p _ hp hc
    have g : MeetsIn c.prog c.w (Builtin.«dict.get» ⟨[.ref p.1, .str x t, u], []⟩) _ := meets_dict_get_default (strKind c.prog c.w) p.1 (str_key _ _ x t) (not_sys C I hp hc) u
    refine wpAny_call (codeAny_call_builtin PySem.F.slot_dict_get.plain PySem.F.entry_dict_get (PySem.F.slot_dict_get.check _ _ _ _ _ _ _ _ hd.typeIs (PySem.F.args_dict_get_3 _ _ _) (g c.A (wants Q E) s ⟨_, hd.mapOf, ?_⟩)))
    refine hq _ _ e _ αs s.heap _ I .refl ?_
    show Rd _ ((valueAt kv x).getD u) ((look kvs x).getD y)
    cases hl : look kvs x with
    | none => rw [r.look.2 hl]; exact ru2
    | some z => obtain ⟨v, e1, e2⟩ := r.look.1 z hl; rw [e1]; exact e2
theorem m_split {x y : Str} {t t2 : Tok} (R' : Rd (Fz (Wl c fr αs σ) s.heap) (.str x t) (.str x)) (hn : methV Fo .split (.d (.str x)) [.d (.str y)] σ ≠ .stuck) : MethOK lf Fo c fr tb env vs αs σ s .split (.d (.str x)) [.d (.str y)] (.builtin "str.split") (.str x t) [.str y t2] := by
  obtain ⟨hsp, e⟩ := if_inv hn
  intro Q E hq _
  have fin : wants Q E (.ok (.ret (.ref s.heap.objs.size))) { s with heap := s.heap.push { cls := .type "list", data := .seq [Value.str x t].toArray } } := by
    obtain ⟨I₂, N₂, g⟩ := push_in I (o := { cls := .type "list", data := .seq [Value.str x t].toArray }) rfl
    exact hq _ _ e _ αs _ _ I₂ N₂ (rd_list g rfl rfl (.one (N₂.rd R')))
  unfold splitNot at hsp
  by_cases h1 : (decide (x.length < y.length) || decide (Builtin.Str.strKind x < Builtin.Str.strKind y)) = true
  · exact call_meets PySem.F.slot_str_split (typeIs_str _ _ _) PySem.F.entry_str_split (PySem.F.args_str_split_2 _ _) (meets_str_split_cannot_occur x y t t2 h1) fin
  · have h1' := Bool.eq_false_iff.mpr h1
    rw [h1', Bool.false_or, Bool.and_eq_true] at hsp
    exact call_meets PySem.F.slot_str_split (typeIs_str _ _ _) PySem.F.entry_str_split (PySem.F.args_str_split_2 _ _) (meets_str_split_not_found x y t t2 h1' (by simpa using hsp.1) hsp.2) fin
theorem m_count {x y : Str} {t t2 : Tok} : MethOK lf Fo c fr tb env vs αs σ s .count (.d (.str x)) [.d (.str y)] (.builtin "str.count") (.str x t) [.str y t2] :=
  fun Q E hq _ => call_gives PySem.F.slot_str_count (typeIs_str _ _ _) PySem.F.entry_str_count (PySem.F.args_str_count_2 _ _) (PySem.gives_str_count x y t t2) (hq _ _ rfl _ αs s.heap _ I .refl (rd_int _ _))
theorem m_own (O : OrcOK n lf Fo) (C : Cok n lf c) {kk ff : Nat} (R : VR (Fz (Wl c fr αs σ) s.heap) αs v V) (Rs : VRs (Fz (Wl c fr αs σ) s.heap) αs us as) (hn : methV Fo (.own kk ff) V as σ ≠ .stuck) : MethOK lf Fo c fr tb env vs αs σ s (.own kk ff) V as (.ref (c.fa ff)) v us :=
  u_o (fun V v => MethOK lf Fo c fr tb env vs αs σ s (.own kk ff) V as (.ref (c.fa ff)) v us) R hn fun k p hp hn => atI_e hn fun c' fs hc hn e Q E hq hx => by
    obtain ⟨hcc, e'⟩ := if_inv hn
    have e2 : methV Fo (.own kk ff) (.o k) as σ = _ := e.trans e'
    rw [e2] at hq hx
    have R₀ : VR (Fz (Wl c fr αs σ) s.heap) αs (.ref p.1) (.o k) := ⟨p, hp, rfl⟩
    rw [e'] at hn
    exact O.run C I (.cons R₀ Rs) hn hq hx
theorem meth_all (O : OrcOK n lf Fo) (C : Cok n lf c) {ak : AK} (R : VR (Fz (Wl c fr αs σ) s.heap) αs v V) (Rs : VRs (Fz (Wl c fr αs σ) s.heap) αs us as) (hn : methV Fo ak V as σ ≠ .stuck) {id : String} (hf : akId ak = some id) : MethOK lf Fo c fr tb env vs αs σ s ak V as (.builtin id) v us := by
  cases ak with
  | append =>
    cases hf
    refine u_o (fun V v => methV Fo .append V as σ ≠ .stuck → MethOK lf Fo c fr tb env vs αs σ s .append V as (.builtin "list.append") v us) R hn (fun k p hp hn => ?_) hn
    refine u_c (fun as us => methV Fo .append (.o k) as σ ≠ .stuck → MethOK lf Fo c fr tb env vs αs σ s .append (.o k) as (.builtin "list.append") (.ref p.1) us) Rs hn fun x r u w ru rr hn => ?_
    exact u_0 (fun r w => methV Fo .append (.o k) (.d x :: r) σ ≠ .stuck → MethOK lf Fo c fr tb env vs αs σ s .append (.o k) (.d x :: r) (.builtin "list.append") (.ref p.1) (u :: w)) rr hn fun hn => m_append I hp ru
  | extend =>
    cases hf
    refine u_o (fun V v => methV Fo .extend V as σ ≠ .stuck → MethOK lf Fo c fr tb env vs αs σ s .extend V as (.builtin "list.extend") v us) R hn (fun k p hp hn => ?_) hn
    refine u_c (fun as us => methV Fo .extend (.o k) as σ ≠ .stuck → MethOK lf Fo c fr tb env vs αs σ s .extend (.o k) as (.builtin "list.extend") (.ref p.1) us) Rs hn fun x r u w ru rr hn => ?_
    exact u_0 (fun r w => methV Fo .extend (.o k) (.d x :: r) σ ≠ .stuck → MethOK lf Fo c fr tb env vs αs σ s .extend (.o k) (.d x :: r) (.builtin "list.extend") (.ref p.1) (u :: w)) rr hn fun hn => m_extend I hp ru
  | pop =>
    cases hf
    refine u_o (fun V v => methV Fo .pop V as σ ≠ .stuck → MethOK lf Fo c fr tb env vs αs σ s .pop V as (.builtin "list.pop") v us) R hn (fun k p hp hn => ?_) hn
    exact u_0 (fun as us => methV Fo .pop (.o k) as σ ≠ .stuck → MethOK lf Fo c fr tb env vs αs σ s .pop (.o k) as (.builtin "list.pop") (.ref p.1) us) Rs hn fun hn => m_pop I hp
  | get =>
    cases hf
    refine u_o (fun V v => methV Fo .get V as σ ≠ .stuck → MethOK lf Fo c fr tb env vs αs σ s .get V as (.builtin "dict.get") v us) R hn (fun k p hp hn => ?_) hn
    refine u_c (fun as us => methV Fo .get (.o k) as σ ≠ .stuck → MethOK lf Fo c fr tb env vs αs σ s .get (.o k) as (.builtin "dict.get") (.ref p.1) us) Rs hn fun x r u w ru rr hn => ?_
    refine u_s (fun x u => methV Fo .get (.o k) (.d x :: r) σ ≠ .stuck → MethOK lf Fo c fr tb env vs αs σ s .get (.o k) (.d x :: r) (.builtin "dict.get") (.ref p.1) (u :: w)) ru hn fun x t _ hn => ?_
    refine u_c (fun r w => methV Fo .get (.o k) (.d (.str x) :: r) σ ≠ .stuck → MethOK lf Fo c fr tb env vs αs σ s .get (.o k) (.d (.str x) :: r) (.builtin "dict.get") (.ref p.1) (.str x t :: w)) rr hn fun y r u w ru rr hn => ?_
    exact u_0 (fun r w => methV Fo .get (.o k) (.d (.str x) :: .d y :: r) σ ≠ .stuck → MethOK lf Fo c fr tb env vs αs σ s .get (.o k) (.d (.str x) :: .d y :: r) (.builtin "dict.get") (.ref p.1) (.str x t :: u :: w)) rr hn fun hn => m_get I C hp ru
  | split =>
    cases hf
    refine u_x (fun V v => methV Fo .split V as σ ≠ .stuck → MethOK lf Fo c fr tb env vs αs σ s .split V as (.builtin "str.split") v us) R hn (fun x u ru hn => ?_) hn
    refine u_s (fun x u => methV Fo .split (.d x) as σ ≠ .stuck → MethOK lf Fo c fr tb env vs αs σ s .split (.d x) as (.builtin "str.split") u us) ru hn fun x t rt hn => ?_
    refine u_c (fun as us => methV Fo .split (.d (.str x)) as σ ≠ .stuck → MethOK lf Fo c fr tb env vs αs σ s .split (.d (.str x)) as (.builtin "str.split") (.str x t) us) Rs hn fun y r u w ru rr hn => ?_
    refine u_s (fun y u => methV Fo .split (.d (.str x)) (.d y :: r) σ ≠ .stuck → MethOK lf Fo c fr tb env vs αs σ s .split (.d (.str x)) (.d y :: r) (.builtin "str.split") (.str x t) (u :: w)) ru hn fun y t2 _ hn => ?_
    exact u_0 (fun r w => methV Fo .split (.d (.str x)) (.d (.str y) :: r) σ ≠ .stuck → MethOK lf Fo c fr tb env vs αs σ s .split (.d (.str x)) (.d (.str y) :: r) (.builtin "str.split") (.str x t) (.str y t2 :: w)) rr hn fun hn => m_split I rt
  | count =>
    cases hf
    refine u_x (fun V v => methV Fo .count V as σ ≠ .stuck → MethOK lf Fo c fr tb env vs αs σ s .count V as (.builtin "str.count") v us) R hn (fun x u ru hn => ?_) hn
    refine u_s (fun x u => methV Fo .count (.d x) as σ ≠ .stuck → MethOK lf Fo c fr tb env vs αs σ s .count (.d x) as (.builtin "str.count") u us) ru hn fun x t rt hn => ?_
    refine u_c (fun as us => methV Fo .count (.d (.str x)) as σ ≠ .stuck → MethOK lf Fo c fr tb env vs αs σ s .count (.d (.str x)) as (.builtin "str.count") (.str x t) us) Rs hn fun y r u w ru rr hn => ?_
    refine u_s (fun y u => methV Fo .count (.d (.str x)) (.d y :: r) σ ≠ .stuck → MethOK lf Fo c fr tb env vs αs σ s .count (.d (.str x)) (.d y :: r) (.builtin "str.count") (.str x t) (u :: w)) ru hn fun y t2 _ hn => ?_
    exact u_0 (fun r w => methV Fo .count (.d (.str x)) (.d (.str y) :: r) σ ≠ .stuck → MethOK lf Fo c fr tb env vs αs σ s .count (.d (.str x)) (.d (.str y) :: r) (.builtin "str.count") (.str x t) (.str y t2 :: w)) rr hn fun _ _ => m_count I
  | own kk ff => cases hf
  | plain => cases hf
set_option tactic.hygienic true in
theorem meth_val (O : OrcOK n lf Fo) (C : Cok n lf c) {ak : AK} (R : VR (Fz (Wl c fr αs σ) s.heap) αs v V) (Rs : VRs (Fz (Wl c fr αs σ) s.heap) αs us as) (hn : methV Fo ak V as σ ≠ .stuck) {f : Value} (hf : (∃ id, akId ak = some id ∧ f = .builtin id) ∨ (∃ k ff, ak = .own k ff ∧ f = .ref (c.fa ff))) : MethOK lf Fo c fr tb env vs αs σ s ak V as f v us :=
  hf.elim (fun ⟨_, h, e⟩ => e ▸ meth_all I O C R Rs hn h) (fun ⟨_, _, h, e⟩ => by subst h e; exact m_own I O C R Rs hn)
end
end
theorem sound_meth {x : X} {xs : XL} (O : OrcOK n lf Fo) (H : SoundX n lf Fo x) (HA : SoundA n lf Fo xs) (a : Nat) (pa p : Pos) : SoundX n lf Fo (.meth x a pa xs p) := by
  intro c C fr sc tb env vs αs σ s Q E I G ok hn hq hx
  simp only [q_okX_8, Bool.and_eq_true, decide_eq_true_eq] at ok
  obtain ⟨⟨⟨⟨⟨ox, ob⟩, oxs⟩, ol⟩, oline⟩, onm⟩ := ok
  simp only [q_ev_8] at hn hq hx
  simp only [q_xE_8]
  rw [arm_eval_Call]
  refine wpAny_bind (attr_base ob (H.run C I G ox rfl hn hx (fun V σ₁ v αs₁ h₁ t₁ hr I₁ N₁ R₁ hx₁ => ?_)))
  rw [hr] at hn hq hx₁
  have hrec : okRecv (c.T.ak a) a V σ₁ = true := by
    cases e : okRecv (c.T.ak a) a V σ₁ with
    | true => rfl
    | false => rw [e] at hn; exact absurd rfl hn
  simp only [hrec, if_true] at hn hq hx₁
  refine wpAny_bind (wpAny_standAt ?_)
  have hK : c.K.In h₁ := C.wd.kin.keeps I₁.st.base
  -- the arguments, then the call
  have tail : ∀ (f : Value), ((∃ id, akId (c.T.ak a) = some id ∧ f = .builtin id) ∨ (∃ k ff, c.T.ak a = .own k ff ∧ f = .ref (c.fa ff))) →
      wpAny (model c.prog c.w) c.A (spliced (backTo p (starEach (xlE c.T tb xs) env))) (fun us s₂ => c.K.In s₂.heap ∧ wpAny (model c.prog c.w) c.A (call f ([v] ++ us)) Q E s₂) E { s with heap := h₁, toks := t₁ } := by
    intro f hf
    refine HA c C fr sc tb env vs αs₁ σ₁ { s with heap := h₁, toks := t₁ } p _ E I₁ G oxs (bind_ok rfl hn) (fun as σ₂ e us αs₂ h₂ t₂ I₂ N₂ Rs hl => ?_) (fun e => hx₁ (by rw [e]; rfl))
    rw [e, ok_bind] at hn hq hx₁
    refine ⟨C.wd.kin.keeps I₂.st.base, ?_⟩
    exact meth_val (s := { s with heap := h₂, toks := t₂ }) I₂ O C (N₂.vr R₁) Rs hn hf _ _ (fun U σ₃ e₃ u αs₃ h₃ t₃ I₃ N₃ R₃ => hq U σ₃ e₃ u αs₃ h₃ t₃ I₃ ((N₁.trans N₂).trans N₃) R₃) (HX.after (s := { s with heap := h₁, toks := t₁ }) hx₁ N₂ id)
  rcases recv_ok (s := { s with heap := h₁, toks := t₁ }) C I₁ R₁ hrec onm (E := E) with ⟨id, hget, hid⟩ | ⟨k, f, hk, hkeep, hget⟩
  · refine meth_open (form_ok oxs ol) oline hget (callWith_b (star_plain oxs).1 ?_)
    exact wpAny_mono (tail (.builtin id) (.inl ⟨id, hid, rfl⟩)) (fun us s₂ h => h.2) fun _ _ e => e
  · refine meth_open (form_ok oxs ol) oline hget ?_
    have ht := tail (.ref (c.fa f)) (.inr ⟨k, f, hk, rfl⟩)
    cases xs with
    | nil =>
      simp only [q_xlE_0] at ht ⊢
      exact callWith_K0 hK hkeep (fun Γ q hΓ => (ht Γ q hΓ).2 Γ q hΓ)
    | cons y r =>
      have hpl := (star_plain (env := env) (tb := tb) (pos := p) oxs).1
      simp only [q_xlE_1] at ht hpl ⊢
      simp only [q_okL_1, Bool.and_eq_true] at oxs
      rw [star_x (ok_not_dead oxs.1)] at hpl
      exact callWith_K hK hkeep ht (star_x (ok_not_dead oxs.1)) (by simpa [backTo] using hpl)
theorem sound_call_fn {g f : Nat} {inl : Bool} {xs : XL} (O : OrcOK n lf Fo) (HA : SoundA n lf Fo xs) (pn p : Pos) {c : Cx} (C : Cok n lf c) (hg : c.T.gk g = .fn f inl) {fr : List Addr} {sc : Scope} {tb : List (Str × Nat)} {env : Env} {vs : Vs} {αs : List (Addr × Addr)} {σ : Sg} {s : Shared} {Q : Value → Shared → Prop} {E : Value → Shared → Prop}
    (I : Inv c fr tb env vs αs σ s.heap) (G : Gk sc env) (ok : okX c.T sc tb (.call g pn xs p) = true) (hn : ev c.T Fo vs (.call g pn xs p) σ ≠ .stuck)
    (hq : ∀ V σ', ev c.T Fo vs (.call g pn xs p) σ = .ok V σ' → ∀ v αs' h' tk, Inv c fr tb env vs αs' σ' h' → Nx c fr αs σ s.heap αs' σ' h' → VR (Fz (Wl c fr αs' σ') h') αs' v V → Q v { s with heap := h', toks := tk })
    (hx : HX c lf fr αs σ s (ev c.T Fo vs (.call g pn xs p) σ) E) : wpAny (model c.prog c.w) c.A (eval (xE c.T tb (.call g pn xs p)) env) Q E s := by
  simp only [q_okX_6, Bool.and_eq_true] at ok
  replace ok := ok.1
  simp only [q_ev_6, hg] at hn hq hx
  simp only [q_xE_6]
  have hkeep : keepIn c.K (.ref (c.fa f)) = true := by
    obtain ⟨mg, mb, h1, h2, h3, h4, h5, h6⟩ := C.wd.glob
    exact (h4 g f inl hg).2
  refine wpAny_Call_NameR (name_glob (v := .ref (c.fa f)) C I G ok.1 (fun mg h1 h3 h4 h5 => (h4 g f inl hg).1) ?_)
  have hK : c.K.In s.heap := C.wd.kin.keeps I.st.base
  have ht : wpAny (model c.prog c.w) c.A (spliced (backTo p (starEach (xlE c.T tb xs) env))) (fun us s₂ => c.K.In s₂.heap ∧ wpAny (model c.prog c.w) c.A (call (.ref (c.fa f)) ([] ++ us)) Q E s₂) E s := by
    refine HA c C fr sc tb env vs αs σ s p _ E I G ok.2 (bind_ok rfl hn) (fun as σ₂ e us αs₂ h₂ t₂ I₂ N₂ Rs hl => ?_) (fun e => hx (by rw [e]; rfl))
    rw [e, ok_bind] at hn hq hx
    refine ⟨C.wd.kin.keeps I₂.st.base, ?_⟩
    exact O.callF (s := { s with heap := h₂, toks := t₂ }) C I₂ Rs hn (fun U σ₃ e₃ u αs₃ h₃ t₃ I₃ N₃ R₃ => hq U σ₃ e₃ u αs₃ h₃ t₃ I₃ (N₂.trans N₃) R₃) (HX.after (s := s) hx N₂ id)
  cases xs with
  | nil =>
    simp only [q_xlE_0] at ht ⊢
    exact callWith_K0 hK hkeep (fun Γ q hΓ => (ht Γ q hΓ).2 Γ q hΓ)
  | cons y r =>
    have hpl := (star_plain (env := env) (tb := tb) (pos := p) ok.2).1
    simp only [q_xlE_1] at ht hpl ⊢
    have oxs := ok.2
    simp only [q_okL_1, Bool.and_eq_true] at oxs
    rw [star_x (ok_not_dead oxs.1)] at hpl
    exact callWith_K hK hkeep ht (star_x (ok_not_dead oxs.1)) (by simpa [backTo] using hpl)
end
section
variable {n : Nat} {lf : Addr} {Fo : Orc} {c : Cx} {fr : List Addr} {sc : Scope} {tb : List (Str × Nat)} {env : Env} {vs : Vs} {αs : List (Addr × Addr)} {σ : Sg} {s : Shared}
theorem under_type {A : Around} {C : Addr} {args : List Value} : A.under (.builtin "type.__call__" ⟨.ref C :: args, []⟩) = { A with depth := A.depth + 1, units := A.units + 1 } := by
  obtain ⟨hd, d, f, g, u⟩ := A
  rfl
theorem cls_val (O : OrcOK n lf Fo) (C : Cok n lf c) (I : Inv c fr tb env vs αs σ s.heap) {g k f : Nat} (hg : c.T.gk g = .cls k f) {us : List Value} {as : List Mine.V} (Rs : VRs (Fz (Wl c fr αs σ) s.heap) αs us as)
    (hn : callC Fo k f as σ ≠ .stuck) {Q : Value → Shared → Prop} {E : Value → Shared → Prop}
    (hq : ∀ U σ', callC Fo k f as σ = .ok U σ' → ∀ u αs' h' tk, Inv c fr tb env vs αs' σ' h' → Nx c fr αs σ s.heap αs' σ' h' → VR (Fz (Wl c fr αs' σ') h') αs' u U → Q u { s with heap := h', toks := tk })
    (hx : HX c lf fr αs σ s (callC Fo k f as σ) E) :
    wpAny (model c.prog c.w) c.A (call (.ref (c.ca k)) us) Q E s := by
  obtain ⟨mg, mb, h1, h2, h3, h4, h5, h6⟩ := C.wd.glob
  obtain ⟨_, hkeep, hmk, hinit, hty⟩ := h5 g k f hg
  have hK : c.K.In s.heap := C.wd.kin.keeps I.st.base
  obtain ⟨hh, gg, d, t, os⟩ := s
  refine wpAny_call (make_core (makes_of hK hmk) (looks_findIn hK hinit) (fun self => bind_fn hK self hty) (.inl rfl) ?_)
  rw [under_type]
  have kp : ∀ b o, hh.get? b = some o → ((hh.push emptyDict).push (instObj (c.ca k) hh.objs.size)).get? b = some o := fun b o e => Heap.get?_push_of_some _ (Heap.get?_push_of_some _ e)
  have f2 : hh.get? (hh.objs.size + 1) = none := Heap.get?_none_of_le (by omega)
  have hnew : ∀ a ∈ adr (hh.objs.size + 1, hh.objs.size) (.ins k []), hh.get? a = none := by
    intro a ha
    simp only [adr, List.mem_cons, List.not_mem_nil, or_false] at ha
    rcases ha with rfl | rfl
    · exact f2
    · exact fresh
  have hap : ∀ a ∈ adr (hh.objs.size + 1, hh.objs.size) (.ins k []), a ∉ fr ∧ a ∉ c.amb := fun a ha => I.st.apart (s := { heap := hh }) (hnew a ha)
  have g1 : ((hh.push emptyDict).push (instObj (c.ca k) hh.objs.size)).get? (hh.objs.size + 1) = some (instObj (c.ca k) hh.objs.size) := by
    have := Heap.get?_push_size (hh.push emptyDict) (o := instObj (c.ca k) hh.objs.size) rfl
    rwa [Heap.size_push] at this
  have g2 : ((hh.push emptyDict).push (instObj (c.ca k) hh.objs.size)).get? hh.objs.size = some { cls := .type "dict", data := .dict #[] } := Heap.get?_push_of_some _ (Heap.get?_push_size _ rfl)
  have I₁ : Inv c fr tb env vs (αs ++ [(hh.objs.size + 1, hh.objs.size)]) (σ ++ [.ins k []]) ((hh.push emptyDict).push (instObj (c.ca k) hh.objs.size)) :=
    I.new (p := (hh.objs.size + 1, hh.objs.size)) hnew hap kp (fun kz => ⟨⟨g, f, hg⟩, by simp, g1, #[], 0, g2, .nil, by simp⟩)
  have N₁ : Nx c fr αs σ hh (αs ++ [(hh.objs.size + 1, hh.objs.size)]) (σ ++ [.ins k []]) ((hh.push emptyDict).push (instObj (c.ca k) hh.objs.size)) := St.new_nx I.st.len hnew kp
  have hα : (αs ++ [(hh.objs.size + 1, hh.objs.size)])[σ.length]? = some (hh.objs.size + 1, hh.objs.size) := by
    rw [← I.st.len, List.getElem?_append_right (Nat.le_refl _), Nat.sub_self]; rfl
  have hself : VR (Fz (Wl c fr (αs ++ [(hh.objs.size + 1, hh.objs.size)]) (σ ++ [.ins k []])) ((hh.push emptyDict).push (instObj (c.ca k) hh.objs.size))) (αs ++ [(hh.objs.size + 1, hh.objs.size)]) (.ref (hh.objs.size + 1)) (.o σ.length) := ⟨_, hα, rfl⟩
  have CO : CokO n lf { c with A := { c.A with depth := c.A.depth + 1, units := c.A.units + 1 } } := ⟨C.rm.hd, C.rm.gu, by have := C.rm.dp; show c.A.depth + 1 + _ + _ ≤ _; omega, by have := C.rm.un; show c.A.units + 1 + _ + _ ≤ _; omega, C.fm, ⟨C.wd.kin, C.wd.noLim, C.wd.sys, C.wd.anI, C.wd.clsF, C.wd.noDig, C.wd.glob, C.wd.setF, C.wd.lfN, C.wd.raise, C.wd.catch_, fun f fn e => let ⟨o, fd, F⟩ := C.wd.fns f fn e; ⟨o, fd, F.at_, F.data, F.body, F.clos, F.glob, F.blt, F.kind, F.co, F.gen, F.rec_, F.bind, F.okB, F.okT⟩, C.wd.tabE⟩⟩
  unfold callC at hn hq hx
  refine O.runR (s := ⟨(hh.push emptyDict).push (instObj (c.ca k) hh.objs.size), gg, d, t, os⟩) CO I₁ (.cons hself (N₁.vrs Rs)) (fun e => by rw [e] at hn; exact hn rfl) (fun V σ' e v αs' h' tk I' N' R' => ?_) (fun e nt x h' tk X => hx (by rw [e]) nt x h' tk (X.before N₁))
  rw [e] at hn hq
  cases V with
  | o j => exact absurd rfl hn
  | d y =>
    cases y with
    | none =>
      obtain rfl := Rd.none R'
      refine ⟨rfl, ?_⟩
      exact hq _ _ rfl _ αs' h' tk I' (N₁.trans N') (N'.vr hself)
    | _ => exact absurd rfl hn
theorem sound_call {xs : XL} (O : OrcOK n lf Fo) (HA : SoundA n lf Fo xs) (g : Nat) (pn p : Pos) : SoundX n lf Fo (.call g pn xs p) := by
  intro c C fr sc tb env vs αs σ s Q E I G ok hn hq hx
  cases hg : c.T.gk g with
  | fn f inl => exact sound_call_fn O HA pn p C hg I G ok hn hq hx
  | cls k f =>
    simp only [q_okX_6, Bool.and_eq_true] at ok
    replace ok := ok.1
    simp only [q_ev_6, hg] at hn hq hx
    simp only [q_xE_6]
    have hkeep : keepIn c.K (.ref (c.ca k)) = true := by
      obtain ⟨mg, mb, h1, h2, h3, h4, h5, h6⟩ := C.wd.glob
      exact (h5 g k f hg).2.1
    refine wpAny_Call_NameR (name_glob (v := .ref (c.ca k)) C I G ok.1 (fun mg h1 h3 h4 h5 => (h5 g k f hg).1) ?_)
    have hK : c.K.In s.heap := C.wd.kin.keeps I.st.base
    have ht : wpAny (model c.prog c.w) c.A (spliced (backTo p (starEach (xlE c.T tb xs) env))) (fun us s₂ => c.K.In s₂.heap ∧ wpAny (model c.prog c.w) c.A (PySem.call (.ref (c.ca k)) ([] ++ us)) Q E s₂) E s := by
      refine HA c C fr sc tb env vs αs σ s p _ E I G ok.2 (bind_ok rfl hn) (fun as σ₂ e us αs₂ h₂ t₂ I₂ N₂ Rs hl => ?_) (fun e => hx (by rw [e]; rfl))
      rw [e, ok_bind] at hn hq hx
      refine ⟨C.wd.kin.keeps I₂.st.base, ?_⟩
      exact cls_val (s := { s with heap := h₂, toks := t₂ }) O C I₂ hg Rs hn (fun U σ₃ e₃ u αs₃ h₃ t₃ I₃ N₃ R₃ => hq U σ₃ e₃ u αs₃ h₃ t₃ I₃ (N₂.trans N₃) R₃) (HX.after (s := s) hx N₂ id)
    cases xs with
    | nil =>
      simp only [q_xlE_0] at ht ⊢
      exact callWith_K0 hK hkeep (fun Γ q hΓ => (ht Γ q hΓ).2 Γ q hΓ)
    | cons y r =>
      have hpl := (star_plain (env := env) (tb := tb) (pos := p) ok.2).1
      simp only [q_xlE_1] at ht hpl ⊢
      have oxs := ok.2
      simp only [q_okL_1, Bool.and_eq_true] at oxs
      rw [star_x (ok_not_dead oxs.1)] at hpl
      exact callWith_K hK hkeep ht (star_x (ok_not_dead oxs.1)) (by simpa [backTo] using hpl)
  | dat x => simp [q_okX_6, hg, isFC] at ok
  | bt => simp [q_okX_6, hg, isFC] at ok
end
section
variable {n : Nat} {lf : Addr} {Fo : Orc} {c : Cx} {fr : List Addr} {sc : Scope} {tb : List (Str × Nat)} {env : Env} {vs : Vs} {αs : List (Addr × Addr)} {σ : Sg} {s : Shared} {W : List Addr} {h h' : Heap} {nt : Bool} {e : Addr}
structure Fit (c : Cx) (W : List Addr) (h : Heap) : Prop where
  frs : ∀ L ∈ c.frs.filterMap (·.frame), L ∈ W
  base : ∀ b o, c.b₀.get? b = some o → h.get? b = some o ∧ b ∉ W
theorem St.fit (S : St c fr αs σ h) : Fit c (Wl c fr αs σ) h := by
  refine ⟨fun L hL => mem_Wl.mpr ?_, fun b o e => ?_⟩
  · rcases S.frin L hL with q | q
    · exact .inl q
    · exact .inr (.inl q)
  · exact fz_iff.mp (S.baseF b o e)
theorem Un.fresh (X : Exn c lf W h nt e h') {x : Addr} (hx : h'.get? x = none) : Un c W h x := by
  intro o ho
  refine ⟨Classical.byContradiction fun hw => ?_, fun ha => ?_⟩
  · rw [X.fz x o hw ho] at hx; cases hx
  · obtain ⟨⟨sl, e1⟩, _⟩ := X.am x ha o ho
    rw [e1] at hx; cases hx
theorem base_fresh (F : Fit c W h) (X : Exn c lf W h nt e h') {x : Addr} (hx : h'.get? x = none) : c.b₀.get? x = none := by
  cases q : c.b₀.get? x with
  | none => rfl
  | some o =>
    obtain ⟨e1, e2⟩ := F.base x o q
    rw [X.fz x o e2 e1] at hx; cases hx
theorem Un.off {W : List Addr} {h : Heap} {x : Addr} (u : Un c W h x) : (∀ b o, b ∉ W → h.get? b = some o → b ≠ x) ∧ (∀ b ∈ c.amb, ∀ o, h.get? b = some o → b ≠ x) := by
  refine ⟨fun b o hb ho q => hb ?_, fun b hb o ho q => ?_⟩
  · subst q; exact (u o ho).1
  · subst q; exact (u o ho).2 hb
theorem exn_touch {h'' : Heap} {nt' : Bool} (X : Exn c lf W h nt e h') {x : Addr} (u : Un c W h x) (hn : ∀ o, h'.get? x = some o → ∃ vs, o.data = .fields vs) (kb : ∀ b o, b ≠ x → h'.get? b = some o → h''.get? b = some o)
    (hx : ExAt (Un c W h) c.b₀ lf nt' e h'') : Exn c lf W h nt' e h'' := by
  obtain ⟨o1, o2⟩ := u.off
  refine ⟨fun b o hb q => kb b o (o1 b o hb q) (X.fz b o hb q), fun b hb o q => ?_, ?_, X.un, X.base, hx⟩
  · obtain ⟨⟨sl, e1⟩, e2⟩ := X.am b hb o q
    exact ⟨⟨sl, kb _ _ (o2 b hb o q) e1⟩, fun hnf => kb _ _ (o2 b hb o q) (e2 hnf)⟩
  · refine ff_of X.ff fun L hL => ?_
    obtain ⟨_, o, ho, hd⟩ := X.ff.mem hL
    refine ⟨o, kb L o (fun q => ?_) ho, hd⟩
    obtain ⟨vs, hv⟩ := hn o (q ▸ ho)
    exact hd vs hv
theorem exn_flight {M : Model} {A : Around} {Q : Unit → Shared → Prop} {E : Value → Shared → Prop} {fl : Option Addr} (X : Exn c lf W h nt e s.heap) (hq : ∀ h', Exn c lf W h nt e h' → Q () { s with heap := h' }) :
    wpAny M A (setFlight (.ref e) fl) Q E s := by
  obtain ⟨oe, vs, h1, h2, h3, h4, h5⟩ := X.ex
  unfold setFlight
  rcases h5 with ⟨h5, h6⟩ | ⟨T, oT, ts, a1, a2, a3, a4, a5, a6, a7⟩
  · refine wpAny_bind (wpAny_field h1 h3 h6 ?_)
    rw [if_neg (by decide)]
    exact wpAny_pure (hq _ X)
  · refine wpAny_bind (wpAny_field h1 h3 a1 ?_)
    rw [if_pos (show (Value.ref T != Value.none) = true from by simp)]
    refine wpAny_setField a3 a4 a5 (hq _ ?_)
    have kb : ∀ b o, b ≠ T → s.heap.get? b = some o → (s.heap.update T (Obj.mapFields (·.setIfInBounds 3 (fl.elim .none fun f => rawInt f)))).get? b = some o := fun b o hb q => (Heap.get?_update_other _ _ (Ne.symm hb)).trans q
    refine exn_touch X a6 (fun o ho => ⟨ts, by rw [a3] at ho; cases ho; exact a4⟩) kb ⟨oe, vs, kb _ _ (Ne.symm a2) h1, h2, h3, h4, .inr ⟨T, _, _, a1, a2, Heap.get?_update_self _ a3 (Obj.isFreed_of_fields (Obj.data_mapFields a4 _)), Obj.data_mapFields a4 _, by simpa using a5, a6, a7⟩⟩
theorem frame_eq {env e₀ : Env} (h : env.frame = e₀.frame) : PySem.frameOf env = PySem.frameOf e₀ := by unfold PySem.frameOf; rw [h]
theorem exn_entry {A : Around} {M : Model} {env e₀ : Env} {outer : List Env} {L : Addr} {head : Value} {b : Bool} {Q : Unit → Shared → Prop} {E : Value → Shared → Prop} (F : Fit c W h) (hfr : A.frames = some c.frs) (hc : c.frs = e₀ :: outer) (hf : env.frame = some L) (hf₀ : e₀.frame = some L)
    (X : Exn c lf W h nt e s.heap) (hq : ∀ h', Exn c lf W h true e h' → Q () { s with heap := h' }) :
    wpAny M A (do let a ← PySem.frameOf env; let pl ← entryPlaceOf L b; let t ← EntryCells.newEntry head a .none (rawInt L) .none pl; setField (.ref e) 1 t) Q E s := by
  obtain ⟨oe, vs, h1, h2, h3, h4, h5⟩ := X.ex
  rw [frame_eq (hf.trans hf₀.symm)]
  refine wpAny_bind (wpAny_frameOf_fun (by rw [hfr, hc]) (hc ▸ X.ff) hf₀ fun h₁ hs₁ => ?_)
  refine wpAny_bind (wpAny_entryPlaceOf fun pl hpl => ?_)
  unfold EntryCells.newEntry newFields
  refine wpAny_bind (wpAny_newObj_type ?_ (hpl.sizeOk5 _ _ _ _ _))
  have hene : e ∉ (e₀ :: outer).filterMap (·.frame) := fun hm => by
    obtain ⟨_, o, ho, hnf⟩ := X.ff.mem (hc ▸ hm)
    rw [h1] at ho; cases ho; exact hnf vs h3
  have he₁ : h₁.get? e = some oe := (hs₁.2.1 e hene).trans h1
  have X₁ : Exn c lf W h nt e h₁ := by
    refine ⟨fun b o hb q => (hs₁.2.1 b (fun hm => hb (F.frs b (hc ▸ hm)))).trans (X.fz b o hb q), fun b hb o q => ?_, X.ff.of_slotsOnly hs₁, X.un, X.base, ?_⟩
    · obtain ⟨⟨sl, e1⟩, e2⟩ := X.am b hb o q
      obtain ⟨sl2, e3⟩ := hs₁.2.2 b _ e1
      exact ⟨⟨sl2, e3⟩, fun hn => (hs₁.2.1 b (hc ▸ hn)).trans (e2 hn)⟩
    · refine ⟨oe, vs, he₁, h2, h3, h4, ?_⟩
      rcases h5 with h5 | ⟨T, oT, ts, a1, a2, a3, a4, a5, a6, a7⟩
      · exact .inl h5
      · refine .inr ⟨T, oT, ts, a1, a2, (hs₁.2.1 T fun hm => ?_).trans a3, a4, a5, a6, a7⟩
        obtain ⟨_, o, ho, hnf⟩ := X.ff.mem (hc ▸ hm)
        rw [a3] at ho; cases ho; exact hnf ts a4
  have hTf : h₁.get? h₁.objs.size = none := fresh
  have hTe : h₁.objs.size ≠ e := fun q => by rw [q, he₁] at hTf; cases hTf
  have he₂ := Heap.get?_push_of_some (h := h₁) { cls := .type "traceback", dict := none, data := .fields ([head, .ref L, .none, rawInt L, .none] ++ (if pl.isEmpty then List.replicate 6 Value.none else pl)).toArray } he₁
  refine wpAny_setField he₂ h3 h4 (hq _ ?_)
  have hd₃ := Obj.data_mapFields h3 (·.setIfInBounds 1 (Value.ref h₁.objs.size))
  have he₃ := Heap.get?_update_self (Obj.mapFields (·.setIfInBounds 1 (Value.ref h₁.objs.size))) he₂ (Obj.isFreed_of_fields hd₃)
  have hT₃ := (Heap.get?_update_other (h₁.push { cls := .type "traceback", dict := none, data := .fields ([head, .ref L, .none, rawInt L, .none] ++ (if pl.isEmpty then List.replicate 6 Value.none else pl)).toArray })
    (Obj.mapFields (·.setIfInBounds 1 (Value.ref h₁.objs.size))) (Ne.symm hTe)).trans (Heap.get?_push_size h₁ rfl)
  have kb : ∀ b o, b ≠ e → h₁.get? b = some o → ((h₁.push { cls := .type "traceback", dict := none, data := .fields ([head, .ref L, .none, rawInt L, .none] ++ (if pl.isEmpty then List.replicate 6 Value.none else pl)).toArray }).update e (Obj.mapFields (·.setIfInBounds 1 (Value.ref h₁.objs.size)))).get? b = some o :=
    fun b o hbe hb => by
      rw [Heap.get?_update_other _ _ (Ne.symm hbe)]
      exact Heap.get?_push_of_some _ hb
  refine exn_touch X₁ X₁.un (fun o ho => ⟨vs, by rw [he₁] at ho; cases ho; exact h3⟩) kb ⟨_, _, he₃, (Obj.cls_mapFields _ _).trans h2, hd₃, by simpa using h4, .inr ⟨h₁.objs.size, _, _, by simp [h4], hTe, hT₃, rfl, ?_, Un.fresh X₁ hTf, base_fresh F X₁ hTf⟩⟩
  rcases hpl with rfl | ⟨_, _, _, _, _, _, _, rfl⟩ <;> simp
theorem exn_note {A : Around} {M : Model} {env e₀ : Env} {outer : List Env} {L : Addr} {Q : Unit → Shared → Prop} {E : Value → Shared → Prop} (F : Fit c W h) (hfr : A.frames = some c.frs) (hc : c.frs = e₀ :: outer) (hf : env.frame = some L) (hf₀ : e₀.frame = some L)
    (X : Exn c lf W h nt e s.heap) (hq : ∀ h', Exn c lf W h true e h' → Q () { s with heap := h' }) : wpAny M A (noteFrame (.ref e) env) Q E s := by
  obtain ⟨oe, vs, h1, h2, h3, h4, h5⟩ := X.ex
  unfold noteFrame
  simp only [hf]
  rcases h5 with ⟨h5, h6⟩ | ⟨T, oT, ts, a1, a2, a3, a4, a5, a6, a7⟩
  · refine wpAny_bind (wpAny_field h1 h3 h6 ?_)
    rw [if_neg (by decide)]
    exact exn_entry F hfr hc hf hf₀ X hq
  · have a8 : ts[3]? = some ts[3] := Array.getElem?_eq_getElem a5
    refine wpAny_bind (wpAny_field h1 h3 a1 ?_)
    rw [if_pos (show (Value.ref T != Value.none) = true from by simp)]
    refine wpAny_bind (wpAny_field a3 a4 a8 ?_)
    have Xt : Exn c lf W h true e s.heap := ⟨X.fz, X.am, X.ff, X.un, X.base, oe, vs, h1, h2, h3, h4, .inr ⟨T, oT, ts, a1, a2, a3, a4, a5, a6, a7⟩⟩
    split
    · exact wpAny_pure (hq _ Xt)
    · refine wpAny_bind (wpAny_setField a3 a4 a5 ?_)
      have kb : ∀ b o, b ≠ T → s.heap.get? b = some o → (s.heap.update T (Obj.mapFields (·.setIfInBounds 3 Value.none))).get? b = some o := fun b o hb q => (Heap.get?_update_other _ _ (Ne.symm hb)).trans q
      have X₂ : Exn c lf W h true e (s.heap.update T (Obj.mapFields (·.setIfInBounds 3 Value.none))) :=
        exn_touch Xt a6 (fun o ho => ⟨ts, by rw [a3] at ho; cases ho; exact a4⟩) kb ⟨oe, vs, kb _ _ (Ne.symm a2) h1, h2, h3, h4, .inr ⟨T, _, _, a1, a2, Heap.get?_update_self _ a3 (Obj.isFreed_of_fields (Obj.data_mapFields a4 _)), Obj.data_mapFields a4 _, by simpa using a5, a6, a7⟩⟩
      exact exn_entry (s := { s with heap := s.heap.update T (Obj.mapFields (·.setIfInBounds 3 Value.none)) }) F hfr hc hf hf₀ X₂ hq
theorem exn_leave {A : Around} {M : Model} {env e₀ : Env} {outer : List Env} {L : Addr} {Q : Unit → Shared → Prop} {E : Value → Shared → Prop} (F : Fit c W h) (hfr : A.frames = some c.frs) (hc : c.frs = e₀ :: outer) (hf : env.frame = some L) (hf₀ : e₀.frame = some L)
    (X : Exn c lf W h nt e s.heap) (hq : ∀ h', Exn c lf W h true e h' → Q () { s with heap := h' }) : wpAny M A (leaving env (.ref e)) Q E s := by
  unfold leaving
  exact wpAny_bind (exn_note F hfr hc hf hf₀ X fun h' X' => exn_flight (s := { s with heap := h' }) X' hq)
theorem exn_pass {A : Around} {M : Model} {α : Type} {what : String} {env : Env} {Q : α → Shared → Prop} {E : Value → Shared → Prop} (X : Exn c lf W h true e s.heap) (hq : ∀ h', Exn c lf W h true e h' → E (.ref e) { s with heap := h' }) :
    wpAny M A (PySem.passOn what (.ref e) env : Sem α) Q E s := by
  obtain ⟨oe, vs, h1, h2, h3, h4, h5⟩ := X.ex
  unfold PySem.passOn
  rcases h5 with ⟨h5, h6⟩ | ⟨T, oT, ts, a1, a2, a3, a4, a5, a6, a7⟩
  · cases h5
  · refine wpAny_bind (wpAny_field h1 h3 a1 ?_)
    rw [if_neg (show ¬ ((Value.ref T == Value.none) = true) from by simp)]
    exact wpAny_bind (exn_flight X fun h' X' => wpAny_throw (hq h' X'))
theorem exn_noted {A : Around} {M : Model} {env e₀ : Env} {outer : List Env} {L : Addr} {E : Value → Shared → Prop} (F : Fit c W h) (hfr : A.frames = some c.frs) (hc : c.frs = e₀ :: outer) (hf : env.frame = some L) (hf₀ : e₀.frame = some L)
    (X : Exn c lf W h nt e s.heap) (hq : ∀ h', Exn c lf W h true e h' → E (.ref e) { s with heap := h' }) : notedBy M A env E (.ref e) s :=
  exn_note F hfr hc hf hf₀ X hq
end
section
variable {n : Nat} {lf : Addr} {Fo : Orc} {c : Cx} {fr : List Addr} {sc : Scope} {tb : List (Str × Nat)} {env : Env} {vs : Vs} {αs : List (Addr × Addr)} {σ : Sg} {s : Shared}
theorem getV_put {vs : Vs} {i j : Nat} {V W : Mine.V} (h : getV (putV vs i V) j = some W) : (j = i ∧ W = V) ∨ (j ≠ i ∧ getV vs j = some W) := by
  unfold getV putV at h
  by_cases hj : j = i
  · subst hj
    by_cases hl : j < vs.length
    · rw [List.getElem?_set_self hl] at h
      simp at h
      exact .inl ⟨rfl, h.symm⟩
    · rw [List.getElem?_eq_none (by simpa using hl)] at h
      simp at h
  · rw [List.getElem?_set_ne (Ne.symm hj)] at h
    exact .inr ⟨hj, h⟩
noncomputable def NotOwn (env : Env) (b : Addr) : Prop := b ≠ env.locals ∧ ∀ nm, env.cells.lookup nm ≠ some b
noncomputable def OwnCells (env : Env) (fr : List Addr) : Prop := ∀ nm a, env.cells.lookup nm = some a → a ∈ fr
theorem Ns.notFields {h : Heap} {a : Addr} {m : Str → Option Value} (x : h.Ns a m) : ∃ o, h.get? a = some o ∧ ∀ vs, o.data ≠ .fields vs := by
  obtain ⟨o, es, ep, ho, hd, _⟩ := x
  exact ⟨o, ho, fun vs q => by rw [hd] at q; cases q⟩
theorem store_var {M : Model} {A : Around} (I : Inv c fr tb env vs αs σ s.heap) {i : Nat} {nm : Str} (hk : (tb[i]? = some (nm, 1) ∧ env.locals ∈ fr) ∨ (tb[i]? = some (nm, 2) ∧ OwnCells env fr)) {v : Value} {V : Mine.V} (R : VR (Fz (Wl c fr αs σ) s.heap) αs v V) {Q : Unit → Shared → Prop} {E : Value → Shared → Prop}
    (hq : ∀ h' tk, Inv c fr tb env (putV vs i V) αs σ h' → Nx c fr αs σ s.heap αs σ h' → (∀ b o, NotOwn env b → s.heap.get? b = some o → h'.get? b = some o) → Q () { s with heap := h', toks := tk }) :
    wpAny M A (storeName env nm v) Q E s := by
  have kind := I.ek.kind
  rcases hk with ⟨hk, hloc⟩ | ⟨hk, hown⟩
  · obtain ⟨m, hns, hm⟩ := I.fv.loc
    refine wpAny_storeName_local (I.ek.loc i nm hk) hns (fun h' hns' hs => ?_) (by rw [kind]; rfl)
    have kb : ∀ b o, b ≠ env.locals → s.heap.get? b = some o → h'.get? b = some o := fun b o hn e => (hs.2 b hn).trans e
    have N : Nx c fr αs σ s.heap αs σ h' := St.own_nx hloc (I.st.ap3 _ hloc) kb
    refine hq h' _ ⟨I.st.own hloc kb (Ns.notFields hns'), I.ek, ⟨_, hns', fun j nm' W e g => ?_⟩, fun j nm' e => ?_⟩ N fun b o hb e => kb b o hb.1 e
    · rcases getV_put g with ⟨rfl, rfl⟩ | ⟨hj, g⟩
      · rw [hk] at e; cases e
        exact ⟨v, if_pos rfl, N.vr R⟩
      · obtain ⟨u, e1, e2⟩ := hm j nm' W e g
        refine ⟨u, ?_, N.vr e2⟩
        rw [if_neg (fun q => hj ?_)]
        · exact e1
        · subst q; exact I.ek.inj j i _ 1 1 e hk (by decide) (by decide)
    · obtain ⟨a, ov, e1, ⟨o, ho, hd⟩, e3⟩ := I.fv.cel j nm' e
      refine ⟨a, ov, e1, ⟨o, kb _ _ (I.ek.celIn nm' a e1).2 ho, hd⟩, fun W g => ?_⟩
      rcases getV_put g with ⟨rfl, rfl⟩ | ⟨hj, g⟩
      · rw [hk] at e; cases e
      · obtain ⟨u, e4, e5⟩ := e3 W g
        exact ⟨u, e4, N.vr e5⟩
  · obtain ⟨a, ov, e1, hcell, e3⟩ := I.fv.cel i nm hk
    have hafr : a ∈ fr := hown nm a e1
    refine wpAny_storeName_cell kind (I.ek.cel i nm hk) e1 hcell (fun h' hcell' hs => ?_)
    have kb : ∀ b o, b ≠ a → s.heap.get? b = some o → h'.get? b = some o := fun b o hn e => (hs.2 b hn).trans e
    have N : Nx c fr αs σ s.heap αs σ h' := St.own_nx hafr (I.st.ap3 _ hafr) kb
    obtain ⟨m, ⟨oL, es, ep, hoL, hnsr⟩, hm⟩ := I.fv.loc
    have hnf : ∃ o, h'.get? a = some o ∧ ∀ vs, o.data ≠ .fields vs := by
      obtain ⟨o, ho, hd⟩ := hcell'
      exact ⟨o, ho, fun vs q => by rw [hd] at q; cases q⟩
    refine hq h' s.toks ⟨I.st.own hafr kb hnf, I.ek, ⟨m, ⟨oL, es, ep, kb _ _ (Ne.symm (I.ek.celIn nm a e1).2) hoL, hnsr⟩, fun j nm' W e g => ?_⟩, fun j nm' e => ?_⟩ N fun b o hb e => kb b o (fun q => hb.2 nm (q ▸ e1)) e
    · rcases getV_put g with ⟨rfl, rfl⟩ | ⟨hj, g⟩
      · rw [hk] at e; cases e
      · obtain ⟨u, e1, e2⟩ := hm j nm' W e g
        exact ⟨u, e1, N.vr e2⟩
    · by_cases hj : j = i
      · subst hj
        rw [hk] at e; cases e
        refine ⟨a, some v, e1, hcell', fun W g => ?_⟩
        rcases getV_put g with ⟨_, rfl⟩ | ⟨hj, _⟩
        · exact ⟨v, rfl, N.vr R⟩
        · exact absurd rfl hj
      · obtain ⟨b, ov', f1, ⟨o, ho, hd⟩, f3⟩ := I.fv.cel j nm' e
        have hne : b ≠ a := fun q => by
          have := I.ek.celInj nm' nm a (q ▸ f1) e1
          subst this
          exact hj (I.ek.inj j i _ 2 2 e hk (by decide) (by decide))
        refine ⟨b, ov', f1, ⟨o, kb _ _ hne ho, hd⟩, fun W g => ?_⟩
        rcases getV_put g with ⟨rfl, _⟩ | ⟨_, g⟩
        · exact absurd rfl hj
        · obtain ⟨u, e4, e5⟩ := f3 W g
          exact ⟨u, e4, N.vr e5⟩
end
section
variable {n : Nat} {lf : Addr} {Fo : Orc} {c : Cx} {fr : List Addr} {sc : Scope} {tb : List (Str × Nat)} {env : Env} {vs : Vs} {αs : List (Addr × Addr)} {σ : Sg} {s : Shared}
noncomputable def SlotOk (tb : List (Str × Nat)) (env : Env) (fr : List Addr) (i : Nat) : Prop := (tb[i]? = some ((tb.getD i default).1, 1) ∧ env.locals ∈ fr) ∨ (tb[i]? = some ((tb.getD i default).1, 2) ∧ OwnCells env fr)
theorem assign_var {M : Model} {A : Around} (I : Inv c fr tb env vs αs σ s.heap) {i : Nat} {p : Pos} (hk : SlotOk tb env fr i) {v : Value} {V : Mine.V} (R : VR (Fz (Wl c fr αs σ) s.heap) αs v V) {Q : Unit → Shared → Prop} {E : Value → Shared → Prop}
    (hq : ∀ h' tk, Inv c fr tb env (putV vs i V) αs σ h' → Nx c fr αs σ s.heap αs σ h' → (∀ b o, NotOwn env b → s.heap.get? b = some o → h'.get? b = some o) → Q () { s with heap := h', toks := tk }) :
    wpAny M A (assign (.Name (tb.getD i default).1 p) env v) Q E s := wpAny_assign_Name (store_var I hk R hq)
theorem assign_all {M : Model} {A : Around} : ∀ (is : List (Nat × Pos)) {vs vs' : Vs} {us : List Value} {ds : List PyData} {s : Shared} {Q : Unit → Shared → Prop} {E : Value → Shared → Prop}, Inv c fr tb env vs αs σ s.heap → (∀ q ∈ is, SlotOk tb env fr q.1) → RdA (Fz (Wl c fr αs σ) s.heap) us ds → putVs vs is ds = some vs' →
    (∀ h' tk, Inv c fr tb env vs' αs σ h' → Nx c fr αs σ s.heap αs σ h' → (∀ b o, NotOwn env b → s.heap.get? b = some o → h'.get? b = some o) → Q () { s with heap := h', toks := tk }) →
    wpAny M A (assignInOrder ((assignEach (is.map fun q => PySem.Expr.Name (tb.getD q.1 default).1 q.2) env).map (·.2)) us) Q E s
  | [], vs, vs', us, ds, s, Q, E, I, hk, R, hp, hq => by
    cases ds with
    | nil =>
      obtain rfl := R.right_nil
      simp only [putVs, Option.some.injEq] at hp
      subst hp
      exact assignInOrder_nil (hq s.heap s.toks I .refl fun b o _ e => e)
    | cons d ds => simp [putVs] at hp
  | q :: is, vs, vs', us, ds, s, Q, E, I, hk, R, hp, hq => by
    cases ds with
    | nil => simp [putVs] at hp
    | cons d ds =>
      cases us with
      | nil => have := R.left_nil; cases this
      | cons u us =>
        obtain ⟨r1, r2⟩ := R.uncons
        simp only [putVs] at hp
        split at hp
        · refine assignInOrder_cons (assign_var I (hk q (.head _)) (V := .d d) r1 fun h' tk I' N' k' => ?_)
          exact assign_all is (s := { s with heap := h', toks := tk }) I' (fun q hq => hk q (.tail _ hq)) (N'.rda r2) hp fun h'' tk' I'' N'' k'' => hq h'' tk' I'' (N'.trans N'') fun b o hb e => k'' b o hb (k' b o hb e)
        · cases hp
theorem assignEach_names {env : Env} : ∀ (is : List (Nat × Pos)), (assignEach (is.map fun q => PySem.Expr.Name (tb.getD q.1 default).1 q.2) env).length = is.length ∧ (assignEach (is.map fun q => PySem.Expr.Name (tb.getD q.1 default).1 q.2) env).findIdx? (·.1) = none
  | [] => ⟨rfl, rfl⟩
  | q :: is => by
    obtain ⟨a, b⟩ := assignEach_names (env := env) is
    refine ⟨by show _ + 1 = _; rw [a]; rfl, ?_⟩
    show List.findIdx? _ ((false, _) :: assignEach _ env) = none
    rw [List.findIdx?_cons, if_neg (by simp), b]
    rfl
theorem putVs_len {vs vs' : Vs} : ∀ {is : List (Nat × Pos)} {ds : List PyData} {vs : Vs}, putVs vs is ds = some vs' → is.length = ds.length
  | [], [], _, _ => rfl
  | [], _ :: _, _, h => by simp [putVs] at h
  | _ :: _, [], _, h => by simp [putVs] at h
  | q :: is, d :: ds, vs, h => by
    simp only [putVs] at h
    split at h
    · rw [List.length_cons, List.length_cons, putVs_len (vs := vs) h]
    · cases h
theorem assign_tup {M : Program → World → Model} {A : Around} (hh : A.handled = none) (I : Inv c fr tb env vs αs σ s.heap) {is : List (Nat × Pos)} {k : Nat} {p : Pos} {vs' : Vs} {T m : Nat} {o : Obj} {ws : Array Value} {ds : List PyData} (hk : ∀ q ∈ is, SlotOk tb env fr q.1)
    (ho : s.heap.get? T = some o) (hc : o.cls = .type "tuple") (hd : o.data = .seq ws m) (R : RdA (Fz (Wl c fr αs σ) s.heap) ws.toList ds) (hp : putVs vs is ds = some vs') {Q : Unit → Shared → Prop} {E : Value → Shared → Prop}
    (hq : ∀ h' tk, Inv c fr tb env vs' αs σ h' → Nx c fr αs σ s.heap αs σ h' → (∀ b o, NotOwn env b → s.heap.get? b = some o → h'.get? b = some o) → Q () { s with heap := h', toks := tk }) :
    wpAny (model c.prog c.w) A (assign (.Tuple (is.map fun q => PySem.Expr.Name (tb.getD q.1 default).1 q.2) k p) env (.ref T)) Q E s := by
  obtain ⟨a1, a2⟩ := assignEach_names (tb := tb) (env := env) is
  refine wpAny_assign_Tuple hh ⟨o, ho, hc, m, hd⟩ (by rw [a1, putVs_len (vs := vs) hp, size_of R]) a2 fun h' he => ?_
  have k : ∀ b o, s.heap.get? b = some o → h'.get? b = some o := fun b o e => he b o (Nat.ne_of_lt (Heap.lt_size e)) e
  have N : Nx c fr αs σ s.heap αs σ h' := Nx.keep k
  exact assign_all is (s := { s with heap := h' }) (I.keep k) hk (N.rda R) hp fun h'' tk I' N' k' => hq h'' tk I' (N.trans N') fun b o hb e => k' b o hb (k b o e)
noncomputable def ItemIs (z h : Heap) (tg : Tg) (v : Value) (x : PyData) : Prop := match tg with
  | .one .. => Rd z v x
  | .many .. => ∀ ds, x = .tuple ds → RdSq z h "tuple" v ds
theorem ItemIs.keeps {z z' h : Heap} {tg : Tg} {v : Value} {x : PyData} (i : ItemIs z h tg v x) (k : ∀ b o, z.get? b = some o → z'.get? b = some o) : ItemIs z' h tg v x := match tg, i with
  | .one .., i => Rd.keeps i k
  | .many .., i => fun cs e => match i cs e with
    | ⟨T, o, ws, m, e, g1, g2, g3, g4⟩ => ⟨T, o, ws, m, e, g1, g2, g3, g4.keeps k⟩
noncomputable def TgSlots (tb : List (Str × Nat)) (env : Env) (fr : List Addr) (tg : Tg) : Prop := ∀ i ∈ tgSlots tg, SlotOk tb env fr i
theorem bind_tg {A : Around} (hh : A.handled = none) (I : Inv c fr tb env vs αs σ s.heap) {tg : Tg} (hk : TgSlots tb env fr tg) {v : Value} {x : PyData} (hi : ItemIs (Fz (Wl c fr αs σ) s.heap) s.heap tg v x) {vs' : Vs} (hb : bindT vs tg x = some vs') {Q : Unit → Shared → Prop} {E : Value → Shared → Prop}
    (hq : ∀ h' tk, Inv c fr tb env vs' αs σ h' → Nx c fr αs σ s.heap αs σ h' → (∀ b o, NotOwn env b → s.heap.get? b = some o → h'.get? b = some o) → Q () { s with heap := h', toks := tk }) :
    wpAny (model c.prog c.w) A (assign (tgE tb tg) env v) Q E s := by
  cases tg with
  | one i p =>
    simp only [bindT] at hb
    split at hb
    · cases hb
      exact assign_var I (hk i (by simp [tgSlots])) (V := .d x) hi hq
    · cases hb
  | many is k p =>
    cases x with
    | tuple ds =>
      obtain ⟨T, o, ws, m, rfl, h1, h2, h3, h4⟩ := hi ds rfl
      exact assign_tup (M := model) hh I (fun q hq => hk q.1 (by simp only [tgSlots, List.mem_map]; exact ⟨q, hq, rfl⟩)) h1 h2 h3 h4 hb hq
    | _ => simp [bindT] at hb
end
noncomputable def isMany : Tg → Bool
  | .many .. => true
  | _ => false
theorem bind_many {tg : Tg} {vs vs' : Vs} {x : PyData} (hm : isMany tg = true) (hb : bindT vs tg x = some vs') : ∃ cs, x = .tuple cs := by
  cases tg with
  | one j p => cases hm
  | many is k p =>
    cases x with
    | tuple cs => exact ⟨cs, rfl⟩
    | _ => cases hb
structure ItS (prog : Program) (w : World) (A : Around) (tb : List (Str × Nat)) (tg : Tg) (I : Addr) (wr fp : List Addr) (ds : List PyData) (zf : Heap) (S : Nat → Heap → Prop) : Prop where
  frame : ∀ i h h', S i h → (∀ b ∈ fp, ∀ o, h.get? b = some o → h'.get? b = some o) → S i h'
  thr : ∀ i h, S i h → ∀ b ∈ wr, ∃ o, h.get? b = some o
  step : ∀ (i : Nat) (x : PyData) (s : Shared) (K : Value → Shared → Prop) (E : Value → Shared → Prop), ds[i]? = some x → S i s.heap → (∀ b o, zf.get? b = some o → s.heap.get? b = some o) →
    (∀ v h₂ tk₂, S (i + 1) h₂ → (∀ b o, b ∉ wr → s.heap.get? b = some o → h₂.get? b = some o) → ItemIs zf h₂ tg v x → K v { s with heap := h₂, toks := tk₂ }) → (isMany tg = true → ∃ cs, x = .tuple cs) →
    wpAny (model prog w) A (pyNext (.ref I)) (fun r s₁ => ∃ v, r = some v ∧ wpAny (model prog w) A (letOwnedTupleGo (tgE tb tg) (.ref I) v) (fun _ s₂ => K v s₂) E s₁) E s
  self : ∀ i (s : Shared) (Q : Value → Shared → Prop) (E : Value → Shared → Prop), S i s.heap → Q (.ref I) s → wpAny (model prog w) A (pyIter (.ref I)) Q E s
  done : ∀ (s : Shared) (K : Shared → Prop) (E : Value → Shared → Prop), S ds.length s.heap →
    (∀ h₂ tk₂, (∀ b o, b ∉ wr → s.heap.get? b = some o → h₂.get? b = some o) → K { s with heap := h₂, toks := tk₂ }) → wpAny (model prog w) A (pyNext (.ref I)) (fun r s₁ => r = none ∧ K s₁) E s
section
variable {prog : Program} {w : World} {A : Around} {tb : List (Str × Nat)} {tg : Tg} {I ax : Addr} {ds : List PyData} {zf : Heap} {s : Shared}
theorem go_name {i : Nat} {p : Pos} {it v : Value} {Q : Unit → Shared → Prop} {E : Value → Shared → Prop} (h : Q () s) : wpAny (model prog w) A (letOwnedTupleGo (tgE tb (.one i p)) it v) Q E s := wpAny_pure h
theorem go_tupiter {elts : List PySem.Expr} {x1 : Nat} {pos : Pos} {I t T : Addr} {i : Nat} {Q : Unit → Shared → Prop} {E : Value → Shared → Prop} (hit : s.heap.IsTupleIter I t i) (hQ : Q () s) :
    wpAny (model prog w) A (letOwnedTupleGo (.Tuple elts x1 pos) (.ref I) (.ref T)) Q E s := by
  obtain ⟨o, ho, hc, hd⟩ := hit
  unfold letOwnedTupleGo
  refine wpAny_bind (wpAny_load ho ?_)
  rw [hc, hd]
  exact wpAny_pure hQ
theorem item_of {items : Array Value} {i : Nat} {x : PyData} (r : RdA zf items.toList ds) (hx : ds[i]? = some x) : ∃ v, items[i]? = some v ∧ Rd zf v x := by
  obtain ⟨v, e, q⟩ := r.get hx
  exact ⟨v, by simpa using e, q⟩
theorem item_is {v : Value} {x : PyData} {h : Heap} (k : ∀ b o, zf.get? b = some o → h.get? b = some o) (q : Rd zf v x) : ItemIs zf h tg v x := by
  cases tg with
  | one i p => exact q
  | many is kk p =>
    intro cs e
    subst e
    obtain ⟨T, o, ws, m, rfl, h1, h2, h3, h4⟩ := Rd.tuple q
    exact ⟨T, o, ws, m, rfl, k _ _ h1, h2, h3, h4⟩
theorem its_list (hh : A.handled = none) {items : Array Value} (hr : RdA zf items.toList ds) (hne : ax ≠ I) (hzI : zf.get? I = none) :
    ItS prog w A tb tg I [I] [I, ax] ds zf (fun i h => h.IsListIter I ax i ∧ h.IsList ax items) := by
  refine ⟨fun i h h' st hk => ⟨st.1.at fun o e => hk I (by simp) o e, st.2.at fun o e => hk ax (by simp) o e⟩, fun i h st b hb => by simp only [List.mem_singleton] at hb; subst hb; obtain ⟨o, e, _⟩ := st.1; exact ⟨o, e⟩, fun i x s K E hx st hz hK hm => ?_, fun i s Q E st q => wpAny_pyIter_listiter st.1 q, fun s K E st hK => ?_⟩
  · obtain ⟨v, hv, q⟩ := item_of hr hx
    refine wpAny_pyNext_list_item st.1 st.2 hv fun h' hit' hs' => ⟨v, rfl, ?_⟩
    have k : ∀ b o, b ∉ [I] → s.heap.get? b = some o → h'.get? b = some o := fun b o hb e => hs'.extBut b o (fun h => hb (by simp [h])) e
    have kz : ∀ b o, zf.get? b = some o → h'.get? b = some o := fun b o e => k b o (fun hm => by simp at hm; subst hm; rw [hzI] at e; cases e) (hz b o e)
    have fin : K v { s with heap := h' } := hK v h' s.toks ⟨hit', st.2.extBut hs'.extBut hne⟩ k (item_is kz q)
    cases tg with
    | one i p => exact go_name fin
    | many is kk p =>
      obtain ⟨cs, rfl⟩ := hm rfl
      obtain ⟨T, o, ws, m, rfl, _⟩ := Rd.tuple q
      exact wpAny_letOwnedTupleGo_listiter hit' fin
  · refine wpAny_pyNext_list_end hh st.1 st.2 (by rw [← hr.length]; simp) fun h' he' => ⟨rfl, hK h' s.toks fun b o hb e => he' b o (fun h => hb (by simp [h])) e⟩
theorem its_tuple (hh : A.handled = none) {items : Array Value} (hr : RdA zf items.toList ds) (hne : ax ≠ I) (hzI : zf.get? I = none) :
    ItS prog w A tb tg I [I] [I, ax] ds zf (fun i h => h.IsTupleIter I ax i ∧ h.IsTuple ax items) := by
  refine ⟨fun i h h' st hk => ⟨st.1.at fun o e => hk I (by simp) o e, st.2.at fun o e => hk ax (by simp) o e⟩, fun i h st b hb => by simp only [List.mem_singleton] at hb; subst hb; obtain ⟨o, e, _⟩ := st.1; exact ⟨o, e⟩, fun i x s K E hx st hz hK hm => ?_, fun i s Q E st q => wpAny_pyIter_tupleiter st.1 q, fun s K E st hK => ?_⟩
  · obtain ⟨v, hv, q⟩ := item_of hr hx
    refine wpAny_pyNext_tuple_item st.1 st.2 hv fun h' hit' hs' => ⟨v, rfl, ?_⟩
    have k : ∀ b o, b ∉ [I] → s.heap.get? b = some o → h'.get? b = some o := fun b o hb e => hs'.extBut b o (fun h => hb (by simp [h])) e
    have kz : ∀ b o, zf.get? b = some o → h'.get? b = some o := fun b o e => k b o (fun hm => by simp at hm; subst hm; rw [hzI] at e; cases e) (hz b o e)
    have fin : K v { s with heap := h' } := hK v h' s.toks ⟨hit', st.2.extBut hs'.extBut hne⟩ k (item_is kz q)
    cases tg with
    | one i p => exact go_name fin
    | many is kk p =>
      obtain ⟨cs, rfl⟩ := hm rfl
      obtain ⟨T, o, ws, m, rfl, _⟩ := Rd.tuple q
      exact go_tupiter hit' fin
  · refine wpAny_pyNext_tuple_end hh st.1 st.2 (by rw [← hr.length]; simp) fun h' he' => ⟨rfl, hK h' s.toks fun b o hb e => he' b o (fun h => hb (by simp [h])) e⟩
theorem range_get {n i : Nat} {x : PyData} (h : (rangeD n)[i]? = some x) : i < n ∧ x = .int i := by
  unfold rangeD at h
  rw [List.getElem?_map] at h
  by_cases hi : i < n
  · rw [List.getElem?_range hi] at h
    simp at h
    exact ⟨hi, h.symm⟩
  · rw [List.getElem?_eq_none (by simpa using hi)] at h
    simp at h
theorem rangeD_len (n : Nat) : (rangeD n).length = n := by simp [rangeD]
theorem its_range (hh : A.handled = none) {n : Nat} : ItS prog w A tb tg I [I] [I] (rangeD n) zf (fun i h => IsRangeIter h I (i : Int) ((n : Int) - (i : Nat)) 1) := by
  refine ⟨fun i h h' st hk => hk I (by simp) _ st, fun i h st b hb => by simp only [List.mem_singleton] at hb; subst hb; exact ⟨_, st⟩, fun i x s K E hx st hz hK hm => ?_, fun i s Q E st q => wpAny_pyIter_rangeiter st q, fun s K E st hK => ?_⟩
  · obtain ⟨hi, rfl⟩ := range_get hx
    refine wpAny_pyNext_range_item st (by omega) fun h' hit' hs' => ⟨_, rfl, ?_⟩
    cases tg with
    | many is kk p => obtain ⟨cs, e⟩ := hm rfl; cases e
    | one j p =>
      refine go_name (hK _ h' _ ?_ (fun b o hb e => hs'.extBut b o (fun h => hb (by simp [h])) e) (rd_int _ _))
      have e1 : ((i + 1 : Nat) : Int) = (i : Int) + 1 := by push_cast; rfl
      have e2 : (n : Int) - ((i + 1 : Nat) : Int) = (n : Int) - (i : Int) - 1 := by push_cast; omega
      rw [e2, e1]; exact hit'
  · rw [rangeD_len] at st
    exact wpAny_pyNext_range_end hh st (by omega) fun h' he' => ⟨rfl, hK h' s.toks fun b o hb e => he' b o (fun h => hb (by simp [h])) e⟩
theorem enum_get : ∀ {ds : List PyData} {k i : Nat} {x : PyData}, (enumFrom k ds)[i]? = some x → ∃ y, ds[i]? = some y ∧ x = .tuple [.int (k + i : Nat), y]
  | [], k, i, x, h => by simp [enumFrom] at h
  | y :: r, k, 0, x, h => by simp [enumFrom] at h; exact ⟨y, rfl, by simp [← h]⟩
  | y :: r, k, i + 1, x, h => by
    simp only [enumFrom, List.getElem?_cons_succ] at h
    obtain ⟨z, e1, e2⟩ := enum_get h
    refine ⟨z, by simpa using e1, ?_⟩
    rw [e2]
    have : k + 1 + i = k + (i + 1) := by omega
    rw [this]
theorem enum_len : ∀ (ds : List PyData) (k : Nat), (enumFrom k ds).length = ds.length
  | [], _ => rfl
  | _ :: r, k => by simp [enumFrom, enum_len r]
theorem its_enum (hh : A.handled = none) {l it : Addr} {items : Array Value} (hr : RdA zf items.toList ds) (hty : isMany tg = true) (hIi : I ≠ it) (hlI : l ≠ I) (hli : l ≠ it) :
    ItS prog w A tb tg I [I, it] [I, it, l] (enumFrom 0 ds) zf (fun i h => (∃ old, IsEnum h I it (i : Int) old) ∧ h.IsListIter it l i ∧ h.IsList l items) := by
  refine ⟨fun i h h' st hk => ⟨let ⟨old, e⟩ := st.1; ⟨old, hk I (by simp) _ e⟩, st.2.1.at fun o e => hk it (by simp) o e, st.2.2.at fun o e => hk l (by simp) o e⟩, fun i h st b hb => by simp only [List.mem_cons, List.not_mem_nil, or_false] at hb; (rcases hb with rfl | rfl) <;> first | exact ⟨_, st.1.choose_spec⟩ | exact (let ⟨o, e, _⟩ := st.2.1; ⟨o, e⟩), fun i x s K E hx st hz hK hm => ?_, fun i s Q E st q => wpAny_pyIter_enum st.1.choose_spec q, fun s K E st hK => ?_⟩
  · obtain ⟨y, hy, rfl⟩ := enum_get hx
    obtain ⟨v, hv, q⟩ := item_of hr hy
    obtain ⟨⟨old, he⟩, hit, hl⟩ := st
    refine wpAny_pyNext_enum_item he hit hl hv hIi fun h' he' hit' hT hsz hk => ⟨_, rfl, ?_⟩
    cases tg with
    | one j p => cases hty
    | many is kk p =>
      have hTI : s.heap.objs.size ≠ I := fun e => by have := Heap.lt_size he; rw [← e] at this; exact Nat.lt_irrefl _ this
      refine wpAny_letOwnedTupleGo_enum (s := { s with heap := h', toks := s.toks + 1 }) he' fun h'' he'' hs'' => ?_
      have k2 : ∀ b o, b ∉ [I, it] → s.heap.get? b = some o → h''.get? b = some o := fun b o hb e => by
        simp only [List.mem_cons, List.not_mem_nil, or_false, not_or] at hb
        exact hs''.extBut b o hb.1 (hk b o hb.1 hb.2 e)
      refine hK _ h'' _ ⟨⟨v, ?_⟩, ?_, ?_⟩ k2 ?_
      · have e1 : ((i + 1 : Nat) : Int) = (i : Int) + 1 := by push_cast; rfl
        rw [e1]; exact he''
      · exact hit'.at fun o e => hs''.extBut _ _ (Ne.symm hIi) e
      · exact hl.at fun o e => k2 l o (by simp [hlI, hli]) e
      · intro cs e
        cases e
        refine ⟨_, _, _, 0, rfl, hs''.extBut _ _ hTI hT, rfl, rfl, ?_⟩
        refine RdA.cons (by simpa using rd_int (z := zf) _ _) (.one q)
  · obtain ⟨⟨old, he⟩, hit, hl⟩ := st
    rw [enum_len] at he hit
    exact wpAny_pyNext_enum_end hh he hit hl (by rw [← hr.length]; simp) fun h' he' => ⟨rfl, hK h' s.toks fun b o hb e => he' b o (fun h => hb (by simp [h])) e⟩
theorem zip_get : ∀ {xs ys : List PyData} {i : Nat} {x : PyData}, (zipD xs ys)[i]? = some x → ∃ a b, xs[i]? = some a ∧ ys[i]? = some b ∧ x = .tuple [a, b]
  | [], _, i, x, h => by simp [zipD] at h
  | _ :: _, [], i, x, h => by simp [zipD] at h
  | a :: xs, b :: ys, 0, x, h => by simp [zipD] at h; exact ⟨a, b, rfl, rfl, h.symm⟩
  | a :: xs, b :: ys, i + 1, x, h => by
    simp only [zipD, List.getElem?_cons_succ] at h
    obtain ⟨c, d, e1, e2, e3⟩ := zip_get h
    exact ⟨c, d, by simpa using e1, by simpa using e2, e3⟩
theorem zip_len : ∀ (xs ys : List PyData), xs.length = (zipD xs ys).length ∨ ys.length = (zipD xs ys).length
  | [], _ => .inl rfl
  | _ :: _, [] => .inr rfl
  | a :: xs, b :: ys => by
    simp only [zipD, List.length_cons]
    have := zip_len xs ys
    omega
theorem its_zip (hh : A.handled = none) {l1 l2 TI TO i1 i2 : Addr} {xs ys : Array Value} {es : List PyData} (hr1 : RdA zf xs.toList ds) (hr2 : RdA zf ys.toList es) (hty : isMany tg = true) (D : ZipApart I TI TO i1 i2 l1 l2) :
    ItS prog w A tb tg I [I, TI, TO, i1, i2] [I, TI, TO, i1, i2, l1, l2] (zipD ds es) zf (fun i h => IsZip h I TI TO .none ∧ IsPair h TI (.ref i1) (.ref i2) ∧ (∃ a b, IsPair h TO a b) ∧ h.IsListIter i1 l1 i ∧ h.IsListIter i2 l2 i ∧ h.IsList l1 xs ∧ h.IsList l2 ys) := by
  refine ⟨fun i h h' st hk => ?_, fun i h st b hb => by simp only [List.mem_cons, List.not_mem_nil, or_false] at hb; obtain ⟨a1, a2, ⟨u, v, a3⟩, ⟨o4, a4, _⟩, ⟨o5, a5, _⟩, _⟩ := st; (rcases hb with rfl | rfl | rfl | rfl | rfl) <;> first | exact ⟨_, a1⟩ | exact ⟨_, a2⟩ | exact ⟨_, a3⟩ | exact ⟨_, a4⟩ | exact ⟨_, a5⟩, fun i x s K E hx st hz hK hm => ?_, fun i s Q E st q => wpAny_pyIter_zip st.1 q, fun s K E st hK => ?_⟩
  · obtain ⟨a1, a2, ⟨u, v, a3⟩, a4, a5, a6, a7⟩ := st
    exact ⟨hk I (by simp) _ a1, hk TI (by simp) _ a2, ⟨u, v, hk TO (by simp) _ a3⟩, a4.at fun o e => hk i1 (by simp) o e, a5.at fun o e => hk i2 (by simp) o e, a6.at fun o e => hk l1 (by simp) o e, a7.at fun o e => hk l2 (by simp) o e⟩
  · obtain ⟨a, b, ha, hb, rfl⟩ := zip_get hx
    obtain ⟨va, hva, qa⟩ := item_of hr1 ha
    obtain ⟨vb, hvb, qb⟩ := item_of hr2 hb
    obtain ⟨a1, a2, ⟨u, v, a3⟩, a4, a5, a6, a7⟩ := st
    refine wpAny_pyNext_zip_item D a1 a2 a3 a4 a5 a6 a7 hva hvb fun h' b1 b2 b3 b4 b5 b6 b7 => ⟨_, rfl, ?_⟩
    cases tg with
    | one j p => cases hty
    | many is kk p =>
      have hTI : s.heap.objs.size ≠ I := fun e => by have := Heap.lt_size a1; rw [← e] at this; exact Nat.lt_irrefl _ this
      refine wpAny_letOwnedTupleGo_zip (s := { s with heap := h' }) b1 fun h'' c1 c2 => ?_
      have k2 : ∀ b o, b ∉ [I, TI, TO, i1, i2] → s.heap.get? b = some o → h''.get? b = some o := fun b o hb e => by
        simp only [List.mem_cons, List.not_mem_nil, or_false, not_or] at hb
        exact c2.extBut b o hb.1 (b7 b o hb.1 hb.2.2.1 hb.2.2.2.1 hb.2.2.2.2 e)
      refine hK _ h'' _ ⟨c1, c2.extBut _ _ D.TIz (b7 _ _ D.TIz D.TITO D.TIi1 D.TIi2 a2), ⟨va, vb, c2.extBut _ _ D.TOz b2⟩, b3.at fun o e => c2.extBut _ _ D.i1z e, b4.at fun o e => c2.extBut _ _ D.i2z e,
        a6.at fun o e => c2.extBut _ _ D.l1z (b7 _ _ D.l1z D.l1TO D.l1i1 D.l1i2 e), a7.at fun o e => c2.extBut _ _ D.l2z (b7 _ _ D.l2z D.l2TO D.l2i1 D.l2i2 e)⟩ k2 ?_
      intro cs e
      cases e
      exact ⟨_, _, _, 0, rfl, c2.extBut _ _ hTI b5, rfl, rfl, RdA.cons qa (.one qb)⟩
  · obtain ⟨a1, a2, ⟨u, v, a3⟩, a4, a5, a6, a7⟩ := st
    refine wpAny_pyNext_zip_end hh D a1 a2 a3 a4 a5 a6 a7 ?_ fun h' he' => ⟨rfl, hK h' s.toks fun b o hb e => ?_⟩
    · rcases zip_len ds es with q | q
      · left; rw [← q, ← hr1.length]; simp
      · right; rw [← q, ← hr2.length]; simp
    · simp only [List.mem_cons, List.not_mem_nil, or_false, not_or] at hb
      exact he' b o hb.1 hb.2.2.1 hb.2.2.2.1 hb.2.2.2.2 e
end
section
variable {n : Nat} {lf : Addr} {Fo : Orc} {c : Cx} {fr : List Addr} {sc : Scope} {tb tb' : List (Str × Nat)} {env : Env} {vs : Vs} {αs : List (Addr × Addr)} {σ : Sg} {s : Shared}
theorem fz_none {W : List Addr} {h : Heap} {b : Addr} (e : h.get? b = none) : (Fz W h).get? b = none := by
  cases q : (Fz W h).get? b with
  | none => rfl
  | some o => rw [Inv.z_in _ _ q] at e; cases e
theorem listOf_ok {h : Heap} (I : Inv c fr tb env vs αs σ h) {v : Value} {u : V} (R : VR (Fz (Wl c fr αs σ) h) αs v u) {ds : List PyData} {σ' : Sg} (e : listOf u σ = .ok ds σ') :
    Inv c fr tb env vs αs σ' h ∧ Nx c fr αs σ h αs σ' h ∧ Rd (Fz (Wl c fr αs σ') h) v (.list ds) ∧ ds.length ≤ 100000 := by
  unfold listOf at e
  cases he : esc u σ with
  | stuck => rw [he] at e; cases e
  | ex => rw [he] at e; cases e
  | ok x σ₂ =>
    rw [he] at e
    simp only [Out.bind] at e
    split at e
    · split at e
      · rename_i hz
        cases e
        obtain ⟨I₂, N₂, R₂⟩ := esc_ok I R he
        exact ⟨I₂, N₂, R₂, by simpa using hz⟩
      · cases e
    · cases e
theorem listOf_ne {u : V} {σ : Sg} : listOf u σ ≠ .ex := by
  unfold listOf
  cases he : esc u σ with
  | stuck => simp [Out.bind]
  | ex => exact absurd he esc_ne
  | ok x σ₂ =>
    simp only [Out.bind]
    split
    · split <;> simp
    · simp
noncomputable def SrcK (c : Cx) (lf : Addr) (fr : List Addr) (tb : List (Str × Nat)) (env : Env) (vs : Vs) (αs : List (Addr × Addr)) (σ : Sg) (s : Shared) (tb' : List (Str × Nat)) (tg : Tg) {β : Type} (r : Out β) (f : List PyData → Sg → Out β) (K : Value → Shared → Prop) (E : Value → Shared → Prop) : Prop :=
  ∀ ds σ' αs' h₁ h' tk I wr fp S, r = f ds σ' → Inv c fr tb env vs αs' σ' h₁ → Nx c fr αs σ s.heap αs' σ' h₁ → (∀ b o, h₁.get? b = some o → h'.get? b = some o) → (∀ b ∈ wr, h₁.get? b = none ∧ ∃ o, h'.get? b = some o) → I ∈ wr →
    (∀ b ∈ fp, b ∈ wr ∨ ∃ o, (Fz (Wl c fr αs' σ') h₁).get? b = some o) → S 0 h' → ItS c.prog c.w c.A tb' tg I wr fp ds (Fz (Wl c fr αs' σ') h₁) S → ds.length ≤ 100000 → HX c lf fr αs' σ' { s with heap := h₁, toks := tk } r E → K (.ref I) { s with heap := h', toks := tk }
theorem src_it {x : X} {tg : Tg} (H : SoundX n lf Fo x) (C : Cok n lf c) (I : Inv c fr tb env vs αs σ s.heap) (G : Gk sc env) (ok : okX c.T sc tb x = true) {β : Type} {r : Out β} {f : List PyData → Sg → Out β}
    (hr : r = (srcOf false .it (fun σ => ev c.T Fo vs x σ) g σ).bind f) (hn : r ≠ .stuck) {K : Value → Shared → Prop} {E : Value → Shared → Prop} (hx : HX c lf fr αs σ s r E) (hK : SrcK c lf fr tb env vs αs σ s tb' tg r f K E) :
    wpAny (model c.prog c.w) c.A (eval (xE c.T tb x) env) (fun xv s₁ => wpAny (model c.prog c.w) c.A (pyIter xv) K E s₁) E s := by
  have hr' : r = (ev c.T Fo vs x σ).bind fun v σ => (itemsOf false v σ).bind f := by
    rw [hr]
    simp only [srcOf]
    cases ev c.T Fo vs x σ <;> rfl
  refine H.run C I G ok hr' hn hx (fun V σ₁ v αs₁ h₁ t₁ hr₁ I₁ N₁ R₁ hx₁ => ?_)
  unfold itemsOf at hr₁
  simp only [Bool.false_eq_true, if_false] at hr₁
  cases he : esc V σ₁ with
  | stuck => rw [he] at hr₁; exact absurd hr₁ hn
  | ex => exact absurd he esc_ne
  | ok x' σ₂ =>
    rw [he] at hr₁
    simp only [Out.bind] at hr₁
    obtain ⟨I₂, N₂, R₂⟩ := esc_ok I₁ R₁ he
    cases hi : items? x' with
    | none => rw [hi] at hr₁; exact absurd hr₁ hn
    | some ds =>
      rw [hi] at hr₁
      by_cases hz : ds.length ≤ 100000
      · simp only [hz, decide_true, if_true] at hr₁
        have hx₂ : HX c lf fr αs₁ σ₂ { s with heap := h₁, toks := t₁ } r E := HX.after (s := { s with heap := h₁, toks := t₁ }) hx₁ N₂ id
        have kp : ∀ (o : Obj) b o', h₁.get? b = some o' → (h₁.push o).get? b = some o' := fun o b o' e => Heap.get?_push_of_some _ e
        cases x' with
        | list es =>
          cases hi
          obtain ⟨a, o, ws, m, rfl, g1, g2, g3, g4⟩ := Rd.list R₂
          have hL : h₁.IsList a ws := ⟨o, Inv.z_in _ _ g1, g2, m, g3⟩
          have hne : a ≠ h₁.objs.size := Nat.ne_of_lt (Heap.lt_size (Inv.z_in _ _ g1))
          refine wpAny_pyIter_list (s := { s with heap := h₁, toks := t₁ }) hL ?_
          refine hK ds σ₂ αs₁ h₁ _ t₁ _ [h₁.objs.size] [h₁.objs.size, a] _ hr₁ I₂ (N₁.trans N₂) (kp _) (fun b hb => by simp at hb; subst hb; exact ⟨fresh, _, Heap.get?_push_size _ rfl⟩) (by simp) (fun b hb => ?_) ⟨⟨_, Heap.get?_push_size _ rfl, rfl, rfl⟩, hL.push _⟩ (its_list C.rm.hd g4 hne (fz_none fresh)) hz hx₂
          simp only [List.mem_cons, List.not_mem_nil, or_false] at hb
          rcases hb with rfl | rfl
          · exact .inl (by simp)
          · exact .inr ⟨o, g1⟩
        | tuple es =>
          cases hi
          obtain ⟨a, o, ws, m, rfl, g1, g2, g3, g4⟩ := Rd.tuple R₂
          have hL : h₁.IsTuple a ws := ⟨o, Inv.z_in _ _ g1, g2, m, g3⟩
          have hne : a ≠ h₁.objs.size := Nat.ne_of_lt (Heap.lt_size (Inv.z_in _ _ g1))
          refine wpAny_pyIter_tuple (s := { s with heap := h₁, toks := t₁ }) hL ?_
          refine hK ds σ₂ αs₁ h₁ _ t₁ _ [h₁.objs.size] [h₁.objs.size, a] _ hr₁ I₂ (N₁.trans N₂) (kp _) (fun b hb => by simp at hb; subst hb; exact ⟨fresh, _, Heap.get?_push_size _ rfl⟩) (by simp) (fun b hb => ?_) ⟨⟨_, Heap.get?_push_size _ rfl, rfl, rfl⟩, ?_⟩ (its_tuple C.rm.hd g4 hne (fz_none fresh)) hz hx₂
          · simp only [List.mem_cons, List.not_mem_nil, or_false] at hb
            rcases hb with rfl | rfl
            · exact .inl (by simp)
            · exact .inr ⟨o, g1⟩
          · obtain ⟨o', e1, e2⟩ := hL
            exact ⟨o', kp _ _ _ e1, e2⟩
        | _ => cases hi
      · simp only [hz, decide_false, Bool.false_eq_true, if_false] at hr₁
        exact absurd hr₁ hn
theorem src_rng {x : X} {tg : Tg} {g : Nat} {pn p : Pos} (H : SoundX n lf Fo x) (C : Cok n lf c) (I : Inv c fr tb env vs αs σ s.heap) (G : Gk sc env) (ok : okX c.T sc tb x = true) (og : okG c.T sc g = true) (ogn : c.T.gn g = ("range" : Str)) {β : Type} {r : Out β} {f : List PyData → Sg → Out β} {gg : Sg → Out V}
    (hr : r = (srcOf false (.rng g pn p) (fun σ => ev c.T Fo vs x σ) gg σ).bind f) (hn : r ≠ .stuck) {K : Value → Shared → Prop} {E : Value → Shared → Prop} (hx : HX c lf fr αs σ s r E) (hK : SrcK c lf fr tb env vs αs σ s tb' tg r f K E) :
    wpAny (model c.prog c.w) c.A (eval (.Call (.Name (c.T.gn g) pn) [xE c.T tb x] [] p) env) (fun xv s₁ => wpAny (model c.prog c.w) c.A (pyIter xv) K E s₁) E s := by
  have hr' : r = (ev c.T Fo vs x σ).bind fun v σ => (match v with
    | .d (.int n) => if (decide (0 ≤ n) && decide (n ≤ 1000) : Bool) then Out.ok (rangeD n.toNat) σ else .stuck
    | _ => .stuck).bind f := by
    rw [hr]
    simp only [srcOf]
    cases ev c.T Fo vs x σ <;> rfl
  refine call_b (fv := .type "range") (star1 (ok_not_dead ok)) (.inl ⟨_, rfl⟩) (fun Q q => name_blt C I G og (by rw [ogn]; simp [blts]) (by rw [ogn]; decide +kernel) q) ?_
  refine H.run C I G ok hr' hn hx (fun V σ₁ v αs₁ h₁ t₁ hr₁ I₁ N₁ R₁ hx₁ => ?_)
  cases V with
  | o k => exact absurd hr₁ hn
  | d y =>
    cases y with
    | int i =>
      obtain ⟨t, rfl⟩ := Rd.int R₁
      simp only at hr₁
      by_cases hi : (decide (0 ≤ i) && decide (i ≤ 1000)) = true
      · simp only [hi, if_true, ok_bind] at hr₁
        simp only [Bool.and_eq_true, decide_eq_true_eq] at hi
        refine call_range_1 (s := { s with heap := h₁, toks := t₁ }) ?_
        have hsz : Builtin.Range.rangeSize 0 i 1 = i := by
          unfold Builtin.Range.rangeSize
          simp only [show (1 : Int) > 0 by omega, if_true, Int.ediv_one]
          split <;> omega
        refine wpAny_pyIter_range (s := { s with heap := h₁.push { cls := .type "range", data := .fields #[.int 0 t₁, .int i t, .int 1 (t₁ + 1)] }, toks := t₁ + 1 + 1 }) (IsRange.new h₁ 0 i 1 t₁ t (t₁ + 1)) ?_ ?_
        · have fi : Builtin.Range.rangeFitsLong i = true := by
            unfold Builtin.Range.rangeFitsLong
            simp only [Bool.and_eq_true, decide_eq_true_eq]
            omega
          have f0 : Builtin.Range.rangeFitsLong 0 = true := by decide
          have f1 : Builtin.Range.rangeFitsLong 1 = true := by decide
          have e1 : i + (1 - 1) = i := by omega
          unfold Builtin.Range.small
          rw [hsz]
          simp only [fi, f0, f1, Bool.and_true, Bool.true_and, show (1 : Int) > 0 by omega, if_true, e1, Bool.or_true]
        · have kp : ∀ (o o2 : Obj) b o', h₁.get? b = some o' → ((h₁.push o).push o2).get? b = some o' := fun o o2 b o' e => Heap.get?_push_of_some _ (Heap.get?_push_of_some _ e)
          have f2 : h₁.get? (h₁.objs.size + 1) = none := Heap.get?_none_of_le (by omega)
          have hp := Heap.get?_push_size (h₁.push { cls := .type "range", data := .fields #[.int 0 t₁, .int i t, .int 1 (t₁ + 1)] }) (o := { cls := .type "range_iterator", data := .fields #[rawInt 0, rawInt (Builtin.Range.rangeSize 0 i 1), rawInt 1] }) rfl
          rw [Heap.size_push] at hp
          have hsz2 : (h₁.push { cls := .type "range", data := .fields #[.int 0 t₁, .int i t, .int 1 (t₁ + 1)] }).objs.size = h₁.objs.size + 1 := Heap.size_push ..
          show K (.ref (h₁.push _).objs.size) _
          rw [hsz2]
          refine hK _ σ₁ αs₁ h₁ _ (t₁ + 1 + 1) _ [h₁.objs.size + 1] [h₁.objs.size + 1] _ hr₁ I₁ N₁ (kp _ _) (fun b hb => by simp at hb; subst hb; exact ⟨f2, _, hp⟩) (by simp) (fun b hb => .inl hb) ?_ (its_range C.rm.hd) (by rw [rangeD_len]; omega) (fun e nt x h' tk X => hx₁ e nt x h' tk X)
          show IsRangeIter _ _ _ _ _
          rw [hsz] at hp
          have e2 : ((i.toNat : Nat) : Int) - ((0 : Nat) : Int) = i := by omega
          rw [e2]
          rw [hsz]
          exact hp
      · simp only [hi, if_false, Bool.false_eq_true] at hr₁
        exact absurd hr₁ hn
    | _ => exact absurd hr₁ hn
end
section
variable {n : Nat} {lf : Addr} {Fo : Orc} {c : Cx} {fr : List Addr} {sc : Scope} {tb tb' : List (Str × Nat)} {env : Env} {vs : Vs} {αs : List (Addr × Addr)} {σ : Sg} {s : Shared}
theorem src_enm {x : X} {tg : Tg} {g : Nat} {pn p : Pos} (H : SoundX n lf Fo x) (C : Cok n lf c) (I : Inv c fr tb env vs αs σ s.heap) (G : Gk sc env) (ok : okX c.T sc tb x = true) (og : okG c.T sc g = true) (ogn : c.T.gn g = ("enumerate" : Str)) (hty : isMany tg = true) {β : Type} {r : Out β} {f : List PyData → Sg → Out β} {gg : Sg → Out V}
    (hr : r = (srcOf false (.enm g pn p) (fun σ => ev c.T Fo vs x σ) gg σ).bind f) (hn : r ≠ .stuck) {K : Value → Shared → Prop} {E : Value → Shared → Prop} (hx : HX c lf fr αs σ s r E) (hK : SrcK c lf fr tb env vs αs σ s tb' tg r f K E) :
    wpAny (model c.prog c.w) c.A (eval (.Call (.Name (c.T.gn g) pn) [xE c.T tb x] [] p) env) (fun xv s₁ => wpAny (model c.prog c.w) c.A (pyIter xv) K E s₁) E s := by
  have hr' : r = (ev c.T Fo vs x σ).bind fun v σ => (listOf v σ).bind fun ds σ => f (enumFrom 0 ds) σ := by
    rw [hr]
    simp only [srcOf]
    cases ev c.T Fo vs x σ with
    | ok v σ₁ => simp only [Out.bind]; cases listOf v σ₁ <;> rfl
    | _ => rfl
  refine call_b (fv := .type "enumerate") (star1 (ok_not_dead ok)) (.inl ⟨_, rfl⟩) (fun Q q => name_blt C I G og (by rw [ogn]; simp [blts]) (by rw [ogn]; decide +kernel) q) ?_
  refine H.run C I G ok hr' hn hx (fun V σ₁ v αs₁ h₁ t₁ hr₁ I₁ N₁ R₁ hx₁ => ?_)
  cases hl : listOf V σ₁ with
  | stuck => rw [hl] at hr₁; exact absurd hr₁ hn
  | ex => exact absurd hl listOf_ne
  | ok ds σ₂ =>
    rw [hl, ok_bind] at hr₁
    obtain ⟨I₂, N₂, R₂, hz⟩ := listOf_ok I₁ R₁ hl
    obtain ⟨a, o, ws, m, rfl, g1, g2, g3, g4⟩ := Rd.list R₂
    have hL : h₁.IsList a ws := ⟨o, Inv.z_in _ _ g1, g2, m, g3⟩
    have hlt : a < h₁.objs.size := Heap.lt_size (Inv.z_in _ _ g1)
    refine call_enumerate_list (s := { s with heap := h₁, toks := t₁ }) hL fun h' hE hI hsz hk => ?_
    refine wpAny_pyIter_enum hE ?_
    refine hK _ σ₂ αs₁ h₁ h' t₁ _ [h₁.objs.size + 1, h₁.objs.size] [h₁.objs.size + 1, h₁.objs.size, a] _ hr₁ I₂ (N₁.trans N₂) hk (fun b hb => ?_) (by simp) (fun b hb => ?_) ⟨⟨_, hE⟩, hI, hL.at fun o e => hk a o e⟩ (its_enum C.rm.hd g4 hty (Nat.succ_ne_self _) (Nat.ne_of_lt (Nat.lt_succ_of_lt hlt)) (Nat.ne_of_lt hlt)) (by rw [enum_len]; exact hz) (HX.after (s := { s with heap := h₁, toks := t₁ }) hx₁ N₂ id)
    · simp only [List.mem_cons, List.not_mem_nil, or_false] at hb
      rcases hb with rfl | rfl
      · exact ⟨Heap.get?_none_of_le (by omega), _, hE⟩
      · obtain ⟨o', e1, e2⟩ := hI
        exact ⟨fresh, o', e1⟩
    · simp only [List.mem_cons, List.not_mem_nil, or_false] at hb
      rcases hb with rfl | rfl | rfl
      · exact .inl (by simp)
      · exact .inl (by simp)
      · exact .inr ⟨o, g1⟩
theorem call_b2 {env : Env} {g : Str} {pn pos : Pos} {e e2 : PySem.Expr} {T : String} {Q : Value → Shared → Prop} {E : Value → Shared → Prop} {M : Model} {A : Around} (hs : starEach [e, e2] env = [(false, eval e env), (false, eval e2 env)])
    (hN : ∀ Q : Value → Shared → Prop, Q (.type T) s → wpAny M A (eval (.Name g pn) env) Q E s) (h : wpAny M A (eval e env) (fun v s₁ => wpAny M A (eval e2 env) (fun v2 s₂ => wpAny M A (call (.type T) [v, v2]) Q E s₂) E s₁) E s) :
    wpAny M A (eval (.Call (.Name g pn) [e, e2] [] pos) env) Q E s := by
  refine wpAny_Call_NameR (hN _ ?_)
  rw [hs]
  exact PySem.callWith_type rfl (Calls.evalArgs_plain (Calls.spliced_cons (wpAny_mono h (fun _ _ h₁ => Calls.spliced_cons (wpAny_mono h₁ (fun _ _ h₂ => Calls.spliced_nil h₂) fun _ _ e => e)) fun _ _ e => e)))
theorem src_zip {x y : X} {tg : Tg} {g : Nat} {pn p : Pos} (H : SoundX n lf Fo x) (H' : SoundX n lf Fo y) (C : Cok n lf c) (I : Inv c fr tb env vs αs σ s.heap) (G : Gk sc env) (ok : okX c.T sc tb x = true) (ok' : okX c.T sc tb y = true) (og : okG c.T sc g = true) (ogn : c.T.gn g = ("zip" : Str)) (hty : isMany tg = true) {β : Type} {r : Out β} {f : List PyData → Sg → Out β}
    (hr : r = (srcOf false (.zip g pn p) (fun σ => ev c.T Fo vs x σ) (fun σ => ev c.T Fo vs y σ) σ).bind f) (hn : r ≠ .stuck) {K : Value → Shared → Prop} {E : Value → Shared → Prop} (hx : HX c lf fr αs σ s r E) (hK : SrcK c lf fr tb env vs αs σ s tb' tg r f K E) :
    wpAny (model c.prog c.w) c.A (eval (.Call (.Name (c.T.gn g) pn) [xE c.T tb x, xE c.T tb y] [] p) env) (fun xv s₁ => wpAny (model c.prog c.w) c.A (pyIter xv) K E s₁) E s := by
  have hr' : r = (ev c.T Fo vs x σ).bind fun v σ => (listOf v σ).bind fun ds σ => (ev c.T Fo vs y σ).bind fun w σ => (listOf w σ).bind fun es σ => f (zipD ds es) σ := by
    rw [hr]
    simp only [srcOf]
    cases ev c.T Fo vs x σ with
    | ok v σ₁ =>
      simp only [Out.bind]
      cases listOf v σ₁ with
      | ok ds σ₂ =>
        simp only [Out.bind]
        cases ev c.T Fo vs y σ₂ with
        | ok w σ₃ =>
          simp only [Out.bind]
          cases listOf w σ₃ <;> rfl
        | _ => rfl
      | _ => rfl
    | _ => rfl
  refine call_b2 (T := "zip") (by rw [star_x (ok_not_dead ok), star_x (ok_not_dead ok')]; rfl) (fun Q q => name_blt C I G og (by rw [ogn]; simp [blts]) (by rw [ogn]; decide +kernel) q) ?_
  refine H.run C I G ok hr' hn hx (fun V σ₁ v αs₁ h₁ t₁ hr₁ I₁ N₁ R₁ hx₁ => ?_)
  cases hl : listOf V σ₁ with
  | stuck => rw [hl] at hr₁; exact absurd hr₁ hn
  | ex => exact absurd hl listOf_ne
  | ok ds σ₂ =>
    rw [hl, ok_bind] at hr₁
    obtain ⟨I₂, N₂, R₂, hz⟩ := listOf_ok I₁ R₁ hl
    have hx₂ : HX c lf fr αs₁ σ₂ { s with heap := h₁, toks := t₁ } r E := HX.after (s := { s with heap := h₁, toks := t₁ }) hx₁ N₂ id
    refine H'.run (s := { s with heap := h₁, toks := t₁ }) C I₂ G ok' hr₁ hn hx₂ (fun W σ₃ w αs₃ h₃ t₃ hr₃ I₃ N₃ R₃ hx₃ => ?_)
    cases hl2 : listOf W σ₃ with
    | stuck => rw [hl2] at hr₃; exact absurd hr₃ hn
    | ex => exact absurd hl2 listOf_ne
    | ok es σ₄ =>
      rw [hl2, ok_bind] at hr₃
      obtain ⟨I₄, N₄, R₄, hz4⟩ := listOf_ok I₃ R₃ hl2
      have R₂' := (N₃.trans N₄).rd R₂
      obtain ⟨a, o, ws, m, rfl, g1, g2, g3, g4⟩ := Rd.list R₂'
      obtain ⟨a2, o2, ws2, m2, rfl, q1, q2, q3, q4⟩ := Rd.list R₄
      have hL : h₃.IsList a ws := ⟨o, Inv.z_in _ _ g1, g2, m, g3⟩
      have hL2 : h₃.IsList a2 ws2 := ⟨o2, Inv.z_in _ _ q1, q2, m2, q3⟩
      have hlt : a < h₃.objs.size := Heap.lt_size (Inv.z_in _ _ g1)
      have hlt2 : a2 < h₃.objs.size := Heap.lt_size (Inv.z_in _ _ q1)
      refine call_zip_2 (s := { s with heap := h₃, toks := t₃ }) hL hL2 fun h' hZ hTI hTO hi1 hi2 hsz hk => ?_
      refine wpAny_pyIter_zip hZ ?_
      refine hK _ σ₄ αs₃ h₃ h' t₃ _ [h₃.objs.size + 4, h₃.objs.size + 2, h₃.objs.size + 3, h₃.objs.size, h₃.objs.size + 1] [h₃.objs.size + 4, h₃.objs.size + 2, h₃.objs.size + 3, h₃.objs.size, h₃.objs.size + 1, a, a2] _ hr₃ I₄ (((N₁.trans N₂).trans N₃).trans N₄) hk (fun b hb => ?_) (by simp) (fun b hb => ?_) ⟨hZ, hTI, ⟨_, _, hTO⟩, hi1, hi2, hL.at fun o e => hk a o e, hL2.at fun o e => hk a2 o e⟩ (its_zip C.rm.hd g4 q4 hty (zipApart_new hlt hlt2)) (by rcases zip_len ds es with q | q <;> omega) (HX.after (s := { s with heap := h₃, toks := t₃ }) hx₃ N₄ id)
      · simp only [List.mem_cons, List.not_mem_nil, or_false] at hb
        rcases hb with rfl | rfl | rfl | rfl | rfl
        · exact ⟨Heap.get?_none_of_le (by omega), _, hZ⟩
        · exact ⟨Heap.get?_none_of_le (by omega), _, hTI⟩
        · exact ⟨Heap.get?_none_of_le (by omega), _, hTO⟩
        · obtain ⟨o', e1, e2⟩ := hi1
          exact ⟨fresh, o', e1⟩
        · obtain ⟨o', e1, e2⟩ := hi2
          exact ⟨Heap.get?_none_of_le (by omega), o', e1⟩
      · simp only [List.mem_cons, List.not_mem_nil, or_false] at hb
        rcases hb with rfl | rfl | rfl | rfl | rfl | rfl | rfl
        · exact .inl (by simp)
        · exact .inl (by simp)
        · exact .inl (by simp)
        · exact .inl (by simp)
        · exact .inl (by simp)
        · exact .inr ⟨o, g1⟩
        · exact .inr ⟨o2, q1⟩
theorem isMany_eq (tg : Tg) : isMany tg = manyTg tg := by cases tg <;> rfl
theorem src_all {x y : X} {tg : Tg} {sk : SK} (H : SoundX n lf Fo x) (H' : SoundX n lf Fo y) (C : Cok n lf c) (I : Inv c fr tb env vs αs σ s.heap) (G : Gk sc env) (ok : okX c.T sc tb x = true) (ok' : (!isZip sk || okX c.T sc tb y) = true) (os : skOk c.T sc sk = true) (ot : (!pairSk sk || manyTg tg) = true) {β : Type} {r : Out β} {f : List PyData → Sg → Out β}
    (hr : r = (srcOf false sk (fun σ => ev c.T Fo vs x σ) (fun σ => ev c.T Fo vs y σ) σ).bind f) (hn : r ≠ .stuck) {K : Value → Shared → Prop} {E : Value → Shared → Prop} (hx : HX c lf fr αs σ s r E) (hK : SrcK c lf fr tb env vs αs σ s tb' tg r f K E) :
    wpAny (model c.prog c.w) c.A (eval (skE c.T sk (xE c.T tb x) (xE c.T tb y)) env) (fun xv s₁ => wpAny (model c.prog c.w) c.A (pyIter xv) K E s₁) E s := by
  cases sk with
  | it => exact src_it H C I G ok hr hn hx hK
  | rng g pn p =>
    simp only [skOk, Bool.and_eq_true, beq_iff_eq] at os
    exact src_rng H C I G ok os.1 os.2 hr hn hx hK
  | enm g pn p =>
    simp only [skOk, Bool.and_eq_true, beq_iff_eq] at os
    exact src_enm H C I G ok os.1 os.2 (by rw [isMany_eq]; simpa [pairSk] using ot) hr hn hx hK
  | zip g pn p =>
    simp only [skOk, Bool.and_eq_true, beq_iff_eq] at os
    exact src_zip H H' C I G ok (by simpa [isZip] using ok') os.1 os.2 (by rw [isMany_eq]; simpa [pairSk] using ot) hr hn hx hK
end
section
variable {n : Nat} {lf : Addr} {Fo : Orc} {c : Cx} {fr fr₂ : List Addr} {sc : Scope} {tb tb' : List (Str × Nat)} {env : Env} {vs : Vs} {αs αs' αs'' : List (Addr × Addr)} {σ σ' σ'' : Sg} {s : Shared} {h h₁ h₂ h₃ h' h'' : Heap}
theorem ent_W {b : Addr} : b ∈ Wl (c.deep fr) fr₂ αs σ ↔ b ∈ fr₂ ∨ b ∈ Wl c fr αs σ := by
  rw [mem_Wl, mem_Wl]
  show b ∈ fr₂ ∨ b ∈ fr ++ c.amb ∨ _ ↔ _
  rw [List.mem_append]
  constructor
  · rintro (q | (q | q) | q)
    · exact .inl q
    · exact .inr (.inl q)
    · exact .inr (.inr (.inl q))
    · exact .inr (.inr (.inr q))
  · rintro (q | q | q | q)
    · exact .inl q
    · exact .inr (.inl (.inl q))
    · exact .inr (.inl (.inr q))
    · exact .inr (.inr q)
structure Newer (l : List Addr) (h h' : Heap) : Prop where
  new : ∀ a ∈ l, h.get? a = none
  there : ∀ a ∈ l, ∃ o, h'.get? a = some o
  keep : ∀ b o, h.get? b = some o → h'.get? b = some o
theorem Newer.apart (N : Newer fr₂ h₁ h₂) (S : St c fr αs σ h₁) {a : Addr} (ha : a ∈ fr₂) : a ∉ fr ∧ a ∉ c.amb ∧ c.b₀.get? a = none := by
  have e := N.new a ha
  refine ⟨fun q => ?_, fun q => ?_, ?_⟩
  · obtain ⟨o, e'⟩ := S.thr a (.inl q); rw [e] at e'; cases e'
  · obtain ⟨o, e'⟩ := S.thr a (.inr q); rw [e] at e'; cases e'
  · cases q : c.b₀.get? a with
    | none => rfl
    | some o => have := S.base a o q; rw [e] at this; cases this
theorem Newer.z (N : Newer fr₂ h₁ h₂) : ∀ b o, (Fz (Wl c fr αs σ) h₁).get? b = some o → (Fz (Wl (c.deep fr) fr₂ αs σ) h₂).get? b = some o := by
  intro b o e
  obtain ⟨e1, e2⟩ := fz_iff.mp e
  refine fz_iff.mpr ⟨N.keep b o e1, fun hm => ?_⟩
  rcases ent_W.mp hm with q | q
  · rw [N.new b q] at e1; cases e1
  · exact e2 q
theorem St.enter (S : St c fr αs σ h₁) (N : Newer fr₂ h₁ h₂) : St (c.deep fr) fr₂ αs σ h₂ := by
  refine ⟨S.len, fun k p cl e1 e2 => ?_, S.ap1, fun k p cl e1 e2 a ha => ?_, fun a ha hm => ?_, fun a ha => ?_, fun a o e => N.keep _ _ (S.base a o e), ?_, fun L hL => .inr (List.mem_append.mpr (S.frin L hL)), fun a ha => ?_⟩
  · have := (S.cell k p cl e1 e2).keep (h' := h₂) (αs' := αs) N.z (fun a _ o e => N.keep a o e) ⟨[], by simp⟩
    exact CellR.amb (l := c.amb) this
  · obtain ⟨x, y, z⟩ := S.ap2 k p cl e1 e2 a ha
    refine ⟨fun q => ?_, fun q => (List.mem_append.mp q).elim x y, z⟩
    obtain ⟨o, e⟩ := (S.cell k p cl e1 e2).there a ha
    rw [N.new a q] at e; cases e
  · obtain ⟨x, y, _⟩ := N.apart S ha
    exact (List.mem_append.mp hm).elim x y
  · rcases ha with ha | ha
    · exact (N.apart S ha).2.2
    · exact S.ap4 a (List.mem_append.mp ha)
  · refine ff_of S.ff fun L hL => ?_
    obtain ⟨_, o, ho, hd⟩ := S.ff.mem hL
    exact ⟨o, N.keep _ _ ho, hd⟩
  · rcases ha with ha | ha
    · exact N.there a ha
    · obtain ⟨o, e⟩ := S.thr a (List.mem_append.mp ha); exact ⟨o, N.keep _ _ e⟩
theorem leave_nx (W : Newer fr₂ h₁ h₂) (N : Nx (c.deep fr) fr₂ αs σ h₂ αs' σ' h₃) : Nx c fr αs σ h₁ αs' σ' h₃ := by
  refine ⟨fun b o hb e => ?_, fun b hb o e => N.am b (List.mem_append.mpr (.inr hb)) o (W.keep _ _ e), N.ext⟩
  obtain ⟨e1, e2⟩ := N.fz b o (fun q => (ent_W.mp q).elim (fun q => by rw [W.new b q] at e; cases e) hb) (W.keep _ _ e)
  exact ⟨e1, fun q => e2 (ent_W.mpr (.inr q))⟩
theorem leave_exn {e : Addr} {nt : Bool} (W : Newer fr₂ h₁ h₂) (X : Exn (c.deep fr) lf (Wl (c.deep fr) fr₂ αs σ) h₂ nt e h') : Exn c lf (Wl c fr αs σ) h₁ nt e h' := by
  have un : ∀ {x : Addr}, Un (c.deep fr) (Wl (c.deep fr) fr₂ αs σ) h₂ x → Un c (Wl c fr αs σ) h₁ x := by
    intro x u o ho
    obtain ⟨u1, u2⟩ := u o (W.keep _ _ ho)
    refine ⟨(ent_W.mp u1).resolve_left fun q => ?_, fun q => u2 (List.mem_append.mpr (.inr q))⟩
    rw [W.new x q] at ho; cases ho
  refine ⟨fun b o hb q => X.fz b o (fun hm => ?_) (W.keep _ _ q), fun b hb o q => X.am b (List.mem_append.mpr (.inr hb)) o (W.keep _ _ q), X.ff, un X.un, X.base, ?_⟩
  · rcases ent_W.mp hm with q' | q'
    · rw [W.new b q'] at q; cases q
    · exact hb q'
  · obtain ⟨oe, vs, e1, e2, e3, e4, e5⟩ := X.ex
    refine ⟨oe, vs, e1, e2, e3, e4, ?_⟩
    rcases e5 with e5 | ⟨T, oT, ts, a1, a2, a3, a4, a5, a6, a7⟩
    · exact .inl e5
    · exact .inr ⟨T, oT, ts, a1, a2, a3, a4, a5, un a6, a7⟩
theorem Inv.half (I : Inv c fr tb env vs αs σ h₁) (W : Newer fr₂ h₁ h₂) (N : Nx (c.deep fr) fr₂ αs σ h₂ αs' σ' h₃) {fr₃ : List Addr} (S : St (c.deep fr) fr₃ αs' σ' h₃) {C : Addr} (hC : C ∈ fr₂) (hC' : C ∈ fr₃) : Inv c (fr ++ [C]) tb env vs αs' σ' h₃ := by
  have sub : ∀ l, C ∈ l → ∀ b, b ∈ Wl c (fr ++ [C]) αs' σ' → b ∈ Wl (c.deep fr) l αs' σ' := by
    intro l hC b hb
    rw [ent_W]
    rcases mem_Wl.mp hb with q | q | q
    · rcases List.mem_append.mp q with q | q
      · exact .inr (mem_Wl.mpr (.inl q))
      · rw [List.mem_singleton.mp q]; exact .inl hC
    · exact .inr (mem_Wl.mpr (.inr (.inl q)))
    · exact .inr (mem_Wl.mpr (.inr (.inr q)))
  have z : ∀ l, C ∈ l → ∀ b o, (Fz (Wl (c.deep fr) l αs' σ') h₃).get? b = some o → (Fz (Wl c (fr ++ [C]) αs' σ') h₃).get? b = some o := by
    intro l hC b o e
    obtain ⟨e1, e2⟩ := fz_iff.mp e
    exact fz_iff.mpr ⟨e1, fun q => e2 (sub l hC b q)⟩
  have z' : ∀ b o, (Fz (Wl c fr αs σ) h₁).get? b = some o → (Fz (Wl c (fr ++ [C]) αs' σ') h₃).get? b = some o := fun b o e => z _ hC b o (N.z b o (W.z b o e))
  have kf : ∀ a, a ∈ fr ∨ a ∈ c.amb → ∀ o, h₁.get? a = some o → ∃ sl, h₃.get? a = some { o with slots := sl } := fun a ha o e => (N.am a (List.mem_append.mpr ha) o (W.keep _ _ e)).1
  obtain ⟨apF, apA, apB⟩ := W.apart I.st hC
  refine ⟨⟨S.len, fun k p cl e1 e2 => ?_, S.ap1, fun k p cl e1 e2 a ha => ?_, fun a ha hm => ?_, fun a ha => ?_, S.base, S.ff, fun L hL => (I.st.frin L hL).imp (fun q => List.mem_append.mpr (.inl q)) id, fun a ha => ?_⟩, ?_, ?_⟩
  · have := (S.cell k p cl e1 e2).keep (h' := h₃) (αs' := αs') (z _ hC') (fun a _ o e => e) ⟨[], by simp⟩
    exact CellR.amb (l' := c.amb) this
  · obtain ⟨x, y, w⟩ := S.ap2 k p cl e1 e2 a ha
    refine ⟨fun q => ?_, fun q => y (List.mem_append.mpr (.inr q)), w⟩
    rcases List.mem_append.mp q with q | q
    · exact y (List.mem_append.mpr (.inl q))
    · rw [List.mem_singleton.mp q] at x; exact x hC'
  · rcases List.mem_append.mp ha with ha | ha
    · exact I.st.ap3 a ha hm
    · rw [List.mem_singleton.mp ha] at hm; exact apA hm
  · rcases ha with ha | ha
    · rcases List.mem_append.mp ha with ha | ha
      · exact I.st.ap4 a (.inl ha)
      · rw [List.mem_singleton.mp ha]; exact apB
    · exact I.st.ap4 a (.inr ha)
  · rcases ha with ha | ha
    · rcases List.mem_append.mp ha with ha | ha
      · exact S.thr a (.inr (List.mem_append.mpr (.inl ha)))
      · rw [List.mem_singleton.mp ha]; exact S.thr C (.inl hC')
    · exact S.thr a (.inr (List.mem_append.mpr (.inr ha)))
  · exact ⟨I.ek.kind, I.ek.glob, I.ek.blt, I.ek.frame, I.ek.loc, I.ek.cel, I.ek.inj, I.ek.locIn.imp (fun q => List.mem_append.mpr (.inl q)) id, fun nm b e => let ⟨x, y⟩ := I.ek.celIn nm b e; ⟨x.imp (fun q => List.mem_append.mpr (.inl q)) id, y⟩, I.ek.celInj⟩
  · obtain ⟨⟨m, hns, hm⟩, hc⟩ := I.fv
    refine ⟨⟨m, Ns_slots hns (kf _ I.ek.locIn), fun i nm V e g => ?_⟩, fun i nm e => ?_⟩
    · obtain ⟨v, e1, e2⟩ := hm i nm V e g
      exact ⟨v, e1, e2.mono z' N.ext⟩
    · obtain ⟨a, ov, e1, e2, e3⟩ := hc i nm e
      refine ⟨a, ov, e1, IsCell_slots e2 (kf _ (I.ek.celIn nm a e1).1), fun V g => ?_⟩
      obtain ⟨v, e4, e5⟩ := e3 V g
      exact ⟨v, e4, e5.mono z' N.ext⟩
theorem nx_over {C : Addr} (N : Nx c fr αs σ h₁ αs' σ' h₃) (hC : h₁.get? C = none) (N2 : Nx c (fr ++ [C]) αs' σ' h₃ αs'' σ'' h'') : Nx c fr αs σ h₁ αs'' σ'' h'' := by
  refine ⟨fun b o hb e => ?_, fun b hb o e => ?_, ?_⟩
  · obtain ⟨e1, e2⟩ := N.fz b o hb e
    have hne : b ≠ C := fun q => by rw [q, hC] at e; cases e
    have hq : b ∉ Wl c (fr ++ [C]) αs' σ' := fun q => by
      rcases mem_Wl.mp q with q | q | q
      · exact e2 (mem_Wl.mpr (.inl ((List.mem_append.mp q).resolve_right (by simpa using hne))))
      · exact e2 (mem_Wl.mpr (.inr (.inl q)))
      · exact e2 (mem_Wl.mpr (.inr (.inr q)))
    obtain ⟨e3, e4⟩ := N2.fz b o hq e1
    refine ⟨e3, fun q => e4 (mem_Wl.mpr ?_)⟩
    rcases mem_Wl.mp q with q | q | q
    · exact .inl (List.mem_append.mpr (.inl q))
    · exact .inr (.inl q)
    · exact .inr (.inr q)
  · obtain ⟨⟨sl, e1⟩, k1⟩ := N.am b hb o e
    obtain ⟨⟨sl2, e2⟩, k2⟩ := N2.am b hb _ e1
    exact ⟨⟨sl2, e2⟩, fun hn => (N2.am b hb o (k1 hn)).2 hn⟩
  · obtain ⟨l, rfl⟩ := N.ext
    obtain ⟨m, rfl⟩ := N2.ext
    exact ⟨l ++ m, by rw [List.append_assoc]⟩
theorem St.touch (S : St c fr αs σ h) {l : List Addr} (hl : ∀ b ∈ l, b ∈ fr) (hnf : ∀ b ∈ l, b ∉ c.frs.filterMap (·.frame)) (kb : ∀ b o, b ∉ l → h.get? b = some o → h'.get? b = some o) (th : ∀ b ∈ l, ∃ o, h'.get? b = some o) : St c fr αs σ h' ∧ Nx c fr αs σ h αs σ h' := by
  have N : Nx c fr αs σ h αs σ h' := by
    refine ⟨fun b o hb e => ⟨kb b o (fun q => hb (mem_Wl.mpr (.inl (hl b q)))) e, hb⟩, fun b hb o e => ?_, [], by simp⟩
    have hn : b ∉ l := fun q => S.ap3 b (hl b q) hb
    exact ⟨⟨o.slots, kb b o hn e⟩, fun _ => kb b o hn e⟩
  refine ⟨⟨S.len, fun j q dl h1 h2 => ?_, S.ap1, S.ap2, S.ap3, S.ap4, fun b o e => ?_, ?_, S.frin, fun b hb => ?_⟩, N⟩
  · exact (S.cell j q dl h1 h2).keep N.z (fun b hb o e => kb b o (fun z => (S.ap2 j q dl h1 h2 b hb).1 (hl b z)) e) ⟨[], by simp⟩
  · exact kb b o (fun z => by have := S.ap4 b (.inl (hl b z)); rw [e] at this; cases this) (S.base b o e)
  · refine ff_of S.ff fun L hL => ?_
    obtain ⟨_, o, ho, hd⟩ := S.ff.mem hL
    exact ⟨o, kb L o (fun q => hnf L q hL) ho, hd⟩
  · by_cases q : b ∈ l
    · exact th b q
    · obtain ⟨o, ho⟩ := S.thr b hb
      exact ⟨o, kb b o q ho⟩
theorem Inv.touch (I : Inv c fr tb env vs αs σ h) {l : List Addr} (hl : ∀ b ∈ l, b ∈ fr) (hnf : ∀ b ∈ l, b ∉ c.frs.filterMap (·.frame)) (hno : ∀ b ∈ l, NotOwn env b) (kb : ∀ b o, b ∉ l → h.get? b = some o → h'.get? b = some o) (th : ∀ b ∈ l, ∃ o, h'.get? b = some o) : Inv c fr tb env vs αs σ h' ∧ Nx c fr αs σ h αs σ h' := by
  obtain ⟨S, N⟩ := I.st.touch hl hnf kb th
  refine ⟨⟨S, I.ek, ?_⟩, N⟩
  obtain ⟨⟨m, ⟨o, es, ep, ho, hns⟩, hm⟩, hc⟩ := I.fv
  refine ⟨⟨m, ⟨o, es, ep, kb _ _ (fun q => (hno _ q).1 rfl) ho, hns⟩, fun i nm V e g => ?_⟩, fun i nm e => ?_⟩
  · obtain ⟨v, e1, e2⟩ := hm i nm V e g
    exact ⟨v, e1, N.vr e2⟩
  · obtain ⟨a, ov, e1, ⟨o, ho, hd⟩, e3⟩ := hc i nm e
    refine ⟨a, ov, e1, ⟨o, kb _ _ (fun q => (hno _ q).2 nm e1) ho, hd⟩, fun V g => ?_⟩
    obtain ⟨v, e4, e5⟩ := e3 V g
    exact ⟨v, e4, N.vr e5⟩
theorem St.less {l : List Addr} (S : St c (fr ++ l) αs σ h) (hnf : ∀ L ∈ c.frs.filterMap (·.frame), L ∉ l) (hdj : ∀ b ∈ fr, b ∉ l) (kb : ∀ b o, b ∉ l → h.get? b = some o → h'.get? b = some o) : St c fr αs σ h' ∧ Nx c (fr ++ l) αs σ h αs σ h' := by
  have live : ∀ (k : Nat) (p : Addr × Addr) (cl : Cell), αs[k]? = some p → σ[k]? = some cl → ∀ a ∈ adr p cl, a ∉ l := fun k p cl e1 e2 a ha q => (S.ap2 k p cl e1 e2 a ha).1 (List.mem_append.mpr (.inr q))
  have N : Nx c (fr ++ l) αs σ h αs σ h' := by
    refine ⟨fun b o hb e => ⟨kb b o (fun q => hb (mem_Wl.mpr (.inl (List.mem_append.mpr (.inr q))))) e, hb⟩, fun b hb o e => ?_, [], by simp⟩
    have hn : b ∉ l := fun q => S.ap3 b (List.mem_append.mpr (.inr q)) hb
    exact ⟨⟨o.slots, kb b o hn e⟩, fun _ => kb b o hn e⟩
  have z : ∀ b o, (Fz (Wl c (fr ++ l) αs σ) h).get? b = some o → (Fz (Wl c fr αs σ) h').get? b = some o := by
    intro b o e
    obtain ⟨e1, e2⟩ := fz_iff.mp e
    refine fz_iff.mpr ⟨kb b o (fun q => e2 (mem_Wl.mpr (.inl (List.mem_append.mpr (.inr q))))) e1, fun q => e2 (mem_Wl.mpr ?_)⟩
    rcases mem_Wl.mp q with q | q | q
    · exact .inl (List.mem_append.mpr (.inl q))
    · exact .inr (.inl q)
    · exact .inr (.inr q)
  refine ⟨⟨S.len, fun k p cl e1 e2 => (S.cell k p cl e1 e2).keep z (fun a ha o e => kb a o (live k p cl e1 e2 a ha) e) ⟨[], by simp⟩, S.ap1, fun k p cl e1 e2 a ha => ?_, fun a ha => S.ap3 a (List.mem_append.mpr (.inl ha)), fun a ha => S.ap4 a (ha.imp (fun q => List.mem_append.mpr (.inl q)) id), fun b o e => ?_, ?_, fun L hL => ?_, fun a ha => ?_⟩, N⟩
  · obtain ⟨x, y, w⟩ := S.ap2 k p cl e1 e2 a ha
    exact ⟨fun q => x (List.mem_append.mpr (.inl q)), y, w⟩
  · exact kb b o (fun q => by have := S.ap4 b (.inl (List.mem_append.mpr (.inr q))); rw [e] at this; cases this) (S.base b o e)
  · refine ff_of S.ff fun L hL => ?_
    obtain ⟨_, o, ho, hd⟩ := S.ff.mem hL
    exact ⟨o, kb L o (hnf L hL) ho, hd⟩
  · rcases S.frin L hL with q | q
    · exact .inl ((List.mem_append.mp q).resolve_right (hnf L hL))
    · exact .inr q
  · rcases ha with ha | ha
    · obtain ⟨o, e⟩ := S.thr a (.inl (List.mem_append.mpr (.inl ha)))
      exact ⟨o, kb a o (hdj a ha) e⟩
    · obtain ⟨o, e⟩ := S.thr a (.inr ha)
      exact ⟨o, kb a o (fun q => S.ap3 a (List.mem_append.mpr (.inr q)) ha) e⟩
theorem Inv.less {C : Addr} {vs₀ : Vs} {αs₀ : List (Addr × Addr)} {σ₀ : Sg} {h₀ : Heap} (I₀ : Inv c fr tb env vs₀ αs₀ σ₀ h₀) (I : Inv c (fr ++ [C]) tb env vs αs σ h) (hnf : C ∉ c.frs.filterMap (·.frame)) (hC : C ∉ fr) (hno : NotOwn env C) (kb : ∀ b o, b ≠ C → h.get? b = some o → h'.get? b = some o) :
    Inv c fr tb env vs αs σ h' ∧ Nx c (fr ++ [C]) αs σ h αs σ h' ∧ ∀ b o, (Fz (Wl c (fr ++ [C]) αs σ) h).get? b = some o → (Fz (Wl c fr αs σ) h').get? b = some o := by
  have kb' : ∀ b o, b ∉ [C] → h.get? b = some o → h'.get? b = some o := fun b o hb => kb b o (by simpa using hb)
  obtain ⟨S, N⟩ := I.st.less (l := [C]) (h' := h') (fun L hL q => hnf (List.mem_singleton.mp q ▸ hL)) (fun b hb q => hC (List.mem_singleton.mp q ▸ hb)) kb'
  have z : ∀ b o, (Fz (Wl c (fr ++ [C]) αs σ) h).get? b = some o → (Fz (Wl c fr αs σ) h').get? b = some o := by
    intro b o e
    obtain ⟨e1, e2⟩ := fz_iff.mp e
    refine fz_iff.mpr ⟨kb b o (fun q => e2 (mem_Wl.mpr (.inl (by rw [q]; simp)))) e1, fun q => e2 (mem_Wl.mpr ?_)⟩
    rcases mem_Wl.mp q with q | q | q
    · exact .inl (List.mem_append.mpr (.inl q))
    · exact .inr (.inl q)
    · exact .inr (.inr q)
  refine ⟨⟨S, I₀.ek, ?_⟩, N, z⟩
  obtain ⟨⟨m, ⟨o, es, ep, ho, hns⟩, hm⟩, hc⟩ := I.fv
  refine ⟨⟨m, ⟨o, es, ep, kb _ _ (fun q => hno.1 q.symm) ho, hns⟩, fun i nm V e g => ?_⟩, fun i nm e => ?_⟩
  · obtain ⟨v, e1, e2⟩ := hm i nm V e g
    exact ⟨v, e1, e2.mono z ⟨[], by simp⟩⟩
  · obtain ⟨a, ov, e1, ⟨o, ho, hd⟩, e3⟩ := hc i nm e
    refine ⟨a, ov, e1, ⟨o, kb _ _ (fun q => hno.2 nm (q ▸ e1)) ho, hd⟩, fun V g => ?_⟩
    obtain ⟨v, e4, e5⟩ := e3 V g
    exact ⟨v, e4, e5.mono z ⟨[], by simp⟩⟩
theorem Inv.deep (I : Inv c fr tb env vs αs σ h) : Inv (c.deep fr) [] tb env vs αs σ h := by
  refine ⟨I.st.deep, ⟨I.ek.kind, I.ek.glob, I.ek.blt, I.ek.frame, I.ek.loc, I.ek.cel, I.ek.inj, .inr (List.mem_append.mpr I.ek.locIn), fun nm b e => let ⟨x, y⟩ := I.ek.celIn nm b e; ⟨.inr (List.mem_append.mpr x), y⟩, I.ek.celInj⟩, ?_⟩
  obtain ⟨⟨m, hns, hm⟩, hc⟩ := I.fv
  have z : ∀ b o, (Fz (Wl c fr αs σ) h).get? b = some o → (Fz (Wl (c.deep fr) [] αs σ) h).get? b = some o := fun b o e => (Fz_eq fun b => deep_W).mpr e
  refine ⟨⟨m, hns, fun i nm V e g => ?_⟩, fun i nm e => ?_⟩
  · obtain ⟨v, e1, e2⟩ := hm i nm V e g
    exact ⟨v, e1, e2.mono z ⟨[], by simp⟩⟩
  · obtain ⟨a, ov, e1, e2, e3⟩ := hc i nm e
    refine ⟨a, ov, e1, e2, fun V g => ?_⟩
    obtain ⟨v, e4, e5⟩ := e3 V g
    exact ⟨v, e4, e5.mono z ⟨[], by simp⟩⟩
theorem exn_own {e : Addr} {nt : Bool} (X : Exn (c.deep fr) lf (Wl (c.deep fr) [] αs σ) h nt e h') {a : Addr} (ha : a ∈ fr) {m : Str → Option Value} (hn : h.Ns a m) : h'.Ns a m :=
  Ns_slots hn fun o ho => (X.am a (List.mem_append.mpr (.inl ha)) o ho).1
theorem lookup_map_kind {f : Str → NameKind → NameKind} : ∀ {names : List (Str × NameKind)} {x : Str}, (names.map fun p => (p.1, f p.1 p.2)).lookup x = (names.lookup x).map (f x)
  | [], x => rfl
  | (n, k) :: r, x => by
    rw [List.map_cons, List.lookup_cons, List.lookup_cons]
    cases hx : x == n with
    | true => rw [beq_iff_eq] at hx; subst hx; rfl
    | false => exact lookup_map_kind
theorem kindOf_comp {cl : List (Str × Addr)} {C : Addr} {x : Str} {k : NameKind} (h : sc.names.lookup x = some k) : (compEnvC sc cl C env).kindOf x = some (if (k == NameKind.free && env.scope.kind == .function && env.kindOf x == some .cell) = true then .cell else k) := by
  have e : (relabel sc env).names = sc.names.map fun p => (p.1, (fun n k => if (k == NameKind.free && env.scope.kind == .function && env.kindOf n == some .cell) = true then NameKind.cell else k) p.1 p.2) := by
    unfold relabel
    refine List.map_congr_left fun p _ => ?_
    obtain ⟨a, b⟩ := p
    dsimp only
    split <;> rfl
  show (relabel sc env).names.lookup x = _
  rw [e]
  refine (lookup_map_kind (f := fun n k => if (k == NameKind.free && env.scope.kind == .function && env.kindOf n == some .cell) = true then NameKind.cell else k)).trans ?_
  rw [h]
  rfl
theorem closure_go : ∀ (l : List (Str × NameKind)) (acc : List (Str × Addr)), (∀ x ∈ l, x.2 = .free → ∃ a, env.cells.lookup x.1 = some a) → (∀ nm a, acc.lookup nm = some a → env.cells.lookup nm = some a) →
    ∃ cl, (forIn l acc (fun (x : Str × NameKind) (r : List (Str × Addr)) => if (x.2 == NameKind.free) = true then do let a ← cellOf env x.1; pure (ForInStep.yield ((x.1, a) :: r)) else pure (ForInStep.yield r)) : Sem (List (Str × Addr))) = pure cl ∧
      (∀ nm a, cl.lookup nm = some a → env.cells.lookup nm = some a) ∧ (∀ nm, ((nm, NameKind.free) ∈ l ∨ ∃ a, acc.lookup nm = some a) → ∃ a, cl.lookup nm = some a)
  | [], acc, _, h2 => ⟨acc, by simp, h2, fun nm h => h.elim (fun q => by cases q) id⟩
  | (x, k) :: l, acc, h1, h2 => by
    simp only [List.forIn_cons]
    by_cases hk : k = .free
    · subst hk
      obtain ⟨a, ha⟩ := h1 (x, .free) (.head _) rfl
      obtain ⟨cl, e1, e2, e3⟩ := closure_go l ((x, a) :: acc) (fun y hy => h1 y (.tail _ hy)) (fun nm b e => by
        rw [List.lookup_cons] at e
        cases hx : nm == x with
        | true => rw [hx] at e; cases e; rw [beq_iff_eq] at hx; rw [hx]; exact ha
        | false => rw [hx] at e; exact h2 nm b e)
      refine ⟨cl, ?_, e2, fun nm h => e3 nm ?_⟩
      · simp only [beq_self_eq_true, if_true, cellOf, ha, pure_bind]
        exact e1
      · rw [List.lookup_cons]
        rcases h with h | ⟨b, hb⟩
        · rcases List.mem_cons.mp h with h | h
          · cases h; exact .inr ⟨a, by simp⟩
          · exact .inl h
        · right
          cases hx : nm == x with
          | true => exact ⟨a, rfl⟩
          | false => exact ⟨b, hb⟩
    · have hk' : (k == NameKind.free) = false := by simpa using hk
      obtain ⟨cl, e1, e2, e3⟩ := closure_go l acc (fun y hy => h1 y (.tail _ hy)) h2
      refine ⟨cl, ?_, e2, fun nm h => e3 nm (h.imp (fun h => ?_) id)⟩
      · simp only [hk', Bool.false_eq_true, if_false, pure_bind]
        exact e1
      · rcases List.mem_cons.mp h with h | h
        · cases h; exact absurd rfl hk
        · exact h
theorem closure_ok (h : ∀ x ∈ sc.names, x.2 = .free → ∃ a, env.cells.lookup x.1 = some a) : ∃ cl, closureFor sc env = pure cl ∧ (∀ nm a, cl.lookup nm = some a → env.cells.lookup nm = some a) ∧ (∀ nm, (nm, NameKind.free) ∈ sc.names → ∃ a, cl.lookup nm = some a) := by
  obtain ⟨cl, e1, e2, e3⟩ := closure_go (env := env) sc.names [] h (fun nm a e => by simp at e)
  refine ⟨cl, ?_, e2, fun nm q => e3 nm (.inl q)⟩
  have e4 := congrArg (fun m : Sem (List (Str × Addr)) => m >>= fun cs => pure cs) e1
  rw [pure_bind] at e4
  rw [← e4]
  unfold closureFor
  rfl
end
noncomputable def Agree (S : List Nat) (a b : Vs) : Prop := a.length = b.length ∧ ∀ j, j ∉ S → a[j]? = b[j]?
theorem Agree.put {S : List Nat} {a b : Vs} {i : Nat} {V : V} (h : Agree (i :: S) a b) : Agree S (putV a i V) (putV b i V) := by
  refine ⟨by simp [putV, h.1], fun j hj => ?_⟩
  unfold putV
  by_cases q : i = j
  · subst q; rw [List.getElem?_set, List.getElem?_set, h.1, if_pos rfl, if_pos rfl]
  · rw [List.getElem?_set_ne q, List.getElem?_set_ne q]
    exact h.2 j (fun hm => (List.mem_cons.mp hm).elim (fun e => q e.symm) hj)
theorem putVs_agree : ∀ (is : List (Nat × Pos)) (ds : List PyData) {a b : Vs}, Agree (is.map (·.1)) a b → putVs a is ds = putVs b is ds
  | [], [], a, b, h => by
    have : a = b := List.ext_getElem? fun j => h.2 j (by simp)
    rw [this]
  | [], _ :: _, _, _, _ => rfl
  | _ :: _, [], _, _, _ => rfl
  | q :: is, x :: ds, a, b, h => by
    simp only [putVs]
    rw [h.1, putVs_agree is ds (a := putV a q.1 (.d x)) (b := putV b q.1 (.d x)) (Agree.put h)]
theorem bindT_agree {tg : Tg} {x : PyData} {a b : Vs} (h : Agree (tgSlots tg) a b) : bindT a tg x = bindT b tg x := by
  cases tg with
  | one i p =>
    simp only [bindT]
    have : putV a i (.d x) = putV b i (.d x) := List.ext_getElem? fun j => (Agree.put (S := []) h).2 j (by simp)
    rw [h.1, this]
  | many is k p =>
    simp only [bindT]
    cases x with
    | tuple ds => exact putVs_agree is ds h
    | _ => rfl
theorem clear_many : ∀ (is : List (Nat × Pos)) (vs : Vs), Agree (is.map (·.1)) (is.foldl (fun vs q => vs.set q.1 none) vs) vs ∧ ∀ j ∈ is.map (·.1), getV (is.foldl (fun vs q => vs.set q.1 none) vs) j = none
  | [], vs => ⟨⟨rfl, fun _ _ => rfl⟩, fun j hj => by simp at hj⟩
  | q :: is, vs => by
    obtain ⟨⟨a1, a2⟩, a3⟩ := clear_many is (vs.set q.1 none)
    refine ⟨⟨by rw [List.foldl_cons, a1]; simp, fun j hj => ?_⟩, fun j hj => ?_⟩
    · simp only [List.map_cons, List.mem_cons, not_or] at hj
      rw [List.foldl_cons, a2 j hj.2, List.getElem?_set_ne (Ne.symm hj.1)]
    · rw [List.foldl_cons]
      by_cases q' : j ∈ is.map (·.1)
      · exact a3 j q'
      · have hj' : j = q.1 := by simpa [q'] using hj
        subst hj'
        unfold getV
        rw [a2 _ q', List.getElem?_set]
        by_cases hl : q.1 < vs.length <;> simp [hl]
theorem clear_agree (vs : Vs) (tg : Tg) : Agree (tgSlots tg) (clearT vs tg) vs ∧ ∀ j ∈ tgSlots tg, getV (clearT vs tg) j = none := by
  cases tg with
  | one i p => exact clear_many [(i, p)] vs
  | many is k p => exact clear_many is vs
theorem turns_clear {f : Vs → Sg → Out (Option PyData)} {tg : Tg} {vs : Vs} {ds : List PyData} {σ : Sg} : turns f tg (clearT vs tg) ds σ = turns f tg vs ds σ := by
  cases ds with
  | nil => rfl
  | cons x r => simp only [turns]; rw [bindT_agree (clear_agree vs tg).1]
section
variable {n : Nat} {lf : Addr} {Fo : Orc} {c : Cx} {fr fr₂ : List Addr} {sc sc' : Scope} {tb tb' : List (Str × Nat)} {env cenv : Env} {vs : Vs} {αs αs' αs'' : List (Addr × Addr)} {σ σ' σ'' : Sg} {s : Shared} {h h₁ h₂ h₃ h' h'' : Heap}
noncomputable def OptRd (z : Heap) : Option Value → Option PyData → Prop
  | none, none => True
  | some v, some y => Rd z v y
  | _, _ => False
noncomputable abbrev testsE (ifs : List PySem.Expr) (env : Env) : Sem Bool := forIn ifs true fun c r => if r = true then do let ok ← isTrue c env (eval c env); pure (ForInStep.yield ok) else pure (ForInStep.yield r)
noncomputable def TurnOK (c : Cx) (lf : Addr) (fr₂ : List Addr) (tb' : List (Str × Nat)) (cenv : Env) (fp : List Addr) (zf : Heap) (f : Vs → Sg → Out (Option PyData)) (ifs : List PySem.Expr) (elt : PySem.Expr) : Prop :=
  ∀ (vs₁ : Vs) (αs₁ : List (Addr × Addr)) (σ₁ : Sg) (s₁ : Shared) (K : Option Value → Shared → Prop) (E : Value → Shared → Prop), Inv c fr₂ tb' cenv vs₁ αs₁ σ₁ s₁.heap → f vs₁ σ₁ ≠ .stuck → (∀ b o, zf.get? b = some o → (Fz (Wl c fr₂ αs₁ σ₁) s₁.heap).get? b = some o) →
    (∀ y σ₂, f vs₁ σ₁ = .ok y σ₂ → ∀ u αs₂ h₂ tk, Inv c fr₂ tb' cenv vs₁ αs₂ σ₂ h₂ → Nx c fr₂ αs₁ σ₁ s₁.heap αs₂ σ₂ h₂ → (∀ b, b ∈ fp ∨ b ∈ fr₂ → ∀ o, s₁.heap.get? b = some o → h₂.get? b = some o) → OptRd (Fz (Wl c fr₂ αs₂ σ₂) h₂) u y → K u { s₁ with heap := h₂, toks := tk }) →
    HX (c.deep fr₂) lf [] αs₁ σ₁ s₁ (f vs₁ σ₁) E →
    wpAny (model c.prog c.w) c.A (testsE ifs cenv) (fun ok s₃ => if ok = true then wpAny (model c.prog c.w) c.A (eval elt cenv) (fun x s₄ => K (some x) s₄) E s₃ else K none s₃) E s₁
inductive CompI (c : Cx) (tb' : List (Str × Nat)) (cenv : Env) (fr₂ : List Addr) (D : Addr) (αs : List (Addr × Addr)) (σ : Sg) (s : Shared) (tg : Tg) (f : Vs → Sg → Out (Option PyData)) (S : Nat → Heap → Prop) (ds : List PyData) (r : Out (List PyData)) (k : Nat) (s' : Shared) : Prop where
  | mk (i : Nat) (vs₁ : Vs) (αs₁ : List (Addr × Addr)) (σ₁ : Sg) (h : Heap) (tk : Nat) (ws : Array Value) (m : Nat) (rs : List PyData) (e1 : s' = { s with heap := h, toks := tk }) (e2 : k = ds.length + 1 - i) (e3 : i ≤ ds.length) (e4 : Inv c fr₂ tb' cenv vs₁ αs₁ σ₁ h) (e5 : Nx c fr₂ αs σ s.heap αs₁ σ₁ h) (e6 : S i h) (e7 : h.get? D = some { cls := .type "list", data := .seq ws m })
    (e8 : RdA (Fz (Wl c fr₂ αs₁ σ₁) h) ws.toList rs) (e9 : rs.length ≤ i) (e10 : r = (turns f tg vs₁ (ds.drop i) σ₁).bind fun zs σ => .ok (rs ++ zs) σ) : CompI c tb' cenv fr₂ D αs σ s tg f S ds r k s'
set_option tactic.hygienic true in
theorem comp_loop {f : Vs → Sg → Out (Option PyData)} {tg : Tg} {ds : List PyData} {zf : Heap} {I D : Addr} {wr fp : List Addr} {S : Nat → Heap → Prop} {ifs : List PySem.Expr} {elt iter : PySem.Expr} {scope : Scope} {pos : Pos} {R : Result → Shared → Prop}
    (C : Cok n lf c) (W : ItS c.prog c.w c.A tb' tg I wr fp ds zf S) (hT : TurnOK c lf ([cenv.locals, D] ++ wr) tb' cenv fp zf f ifs elt) (hts : TgSlots tb' cenv ([cenv.locals, D] ++ wr) tg)
    (hnf : ∀ b ∈ [cenv.locals, D] ++ wr, b ∉ c.frs.filterMap (·.frame)) (hno : ∀ b ∈ wr, NotOwn cenv b) (hnD : NotOwn cenv D) (hfp : ∀ b ∈ fp, NotOwn cenv b ∧ b ≠ D) (hDw : D ∉ wr)
    (hlen : ds.length ≤ 100000) {vs₀ : Vs} (I₀ : Inv c ([cenv.locals, D] ++ wr) tb' cenv vs₀ αs σ s.heap) (hS : S 0 s.heap) (hd : ∃ m, s.heap.get? D = some { cls := .type "list", data := .seq #[] m }) (hz : ∀ b o, zf.get? b = some o → (Fz (Wl c ([cenv.locals, D] ++ wr) αs σ) s.heap).get? b = some o)
    {r : Out (List PyData)} (hr : r = turns f tg vs₀ ds σ) (hn : r ≠ .stuck)
    (hR : ∀ rs σ', r = .ok rs σ' → ∀ αs' h' tk ws m, St c [cenv.locals, D] αs' σ' h' → Nx c ([cenv.locals, D] ++ wr) αs σ s.heap αs' σ' h' → (∃ mm, h'.Ns cenv.locals mm) → h'.get? D = some { cls := .type "list", data := .seq ws m } → RdA (Fz (Wl c [cenv.locals, D] αs' σ') h') ws.toList rs → R (.ok .next) { s with heap := h', toks := tk })
    (hx : r = .ex → ∀ e h' tk, Exn c lf (Wl c ([cenv.locals, D] ++ wr) αs σ) s.heap true e h' → (∃ mm, h'.Ns cenv.locals mm) → R (.error (.ref e)) { s with heap := h', toks := tk }) :
    codeAny (model c.prog c.w) c.A (.compLoop (.ListComp elt [⟨tgE tb' tg, iter, ifs, 0⟩] scope pos) 0 (.ref I) (.ref D) cenv) R s := by
  have hwr : ∀ b ∈ wr, b ∈ [cenv.locals, D] ++ wr := fun b hb => List.mem_append.mpr (.inr hb)
  have hDm : D ∈ [cenv.locals, D] ++ wr := by simp
  have hCm : cenv.locals ∈ [cenv.locals, D] ++ wr := by simp
  generalize hfr : [cenv.locals, D] ++ wr = fr₂ at *
  refine codeAny_loop rfl (CompI c tb' cenv fr₂ D αs σ s tg f S ds r) ?_ (ds.length + 1) ?_
  · rintro k s' ⟨i, vs₁, αs₁, σ₁, h, tk, ws, m, rs, rfl, rfl, hi, I₁, N₁, S₁, hd₁, R₁, hl₁, hr₁⟩
    show wpAny _ c.A ((compTurn (.ListComp elt [⟨tgE tb' tg, iter, ifs, 0⟩] scope pos) 0 (.ref I) (.ref D) cenv).onRaise (fun x => do noteFrame x cenv; theTreesLotGoes x)) _ _ _
    refine wpAny_noted ?_
    rw [compTurn_list]
    refine wpAny_bind (wpAny_standAt (wpAny_bind ?_))
    have z₁ : ∀ b o, zf.get? b = some o → (Fz (Wl c fr₂ αs₁ σ₁) h).get? b = some o := fun b o e => N₁.z b o (hz b o e)
    have zh : ∀ b o, zf.get? b = some o → h.get? b = some o := fun b o e => Inv.z_in _ _ (z₁ b o e)
    by_cases hlt : i < ds.length
    · have hx_i : ds[i]? = some ds[i] := List.getElem?_eq_getElem hlt
      have hdrop : ds.drop i = ds[i] :: ds.drop (i + 1) := List.drop_eq_getElem_cons hlt
      rw [hdrop] at hr₁
      simp only [turns] at hr₁
      cases hb : bindT vs₁ tg ds[i] with
      | none => rw [hb] at hr₁; exact absurd hr₁ hn
      | some vs₂ =>
        rw [hb] at hr₁
        simp only at hr₁
        let E' : Value → Shared → Prop := notedBy (model c.prog c.w) c.A cenv fun e s' => R (.error e) s'
        let J : Shared → Prop := fun s' => ∃ m, m < ds.length + 1 - i ∧ CompI c tb' cenv fr₂ D αs σ s tg f S ds r m s'
        refine wpAny_mono (W.step i ds[i] _ (fun v s₂ => wpAny (model c.prog c.w) c.A (assign (tgE tb' tg) cenv v) (fun _ s₃ => wpAny (model c.prog c.w) c.A (testsE ifs cenv) (fun ok s₄ =>
            if ok = true then wpAny (model c.prog c.w) c.A (eval elt cenv) (fun x s₅ => wpAny (model c.prog c.w) c.A (call (.builtin "list.append") [.ref D, x]) (fun _ s₆ => J s₆) E' s₅) E' s₄ else J s₄) E' s₃) E' s₂) E' hx_i S₁ zh (fun v h₂ tk₂ S₂ k₂ hI => ?_) (fun hm => ?_))
            (fun r' s₁ h₁ => ?_) fun _ _ e => e
        · -- the names are bound
          have hwn : ∀ b ∈ wr, b ∉ c.frs.filterMap (·.frame) := fun b hb => hnf b (hwr b hb)
          obtain ⟨I₂, N₂⟩ := I₁.touch hwr hwn hno k₂ (W.thr _ _ S₂)
          have hd₂ : h₂.get? D = some { cls := .type "list", data := .seq ws m } := k₂ D _ hDw hd₁
          have z₂ : ∀ b o, zf.get? b = some o → (Fz (Wl c fr₂ αs₁ σ₁) h₂).get? b = some o := fun b o e => N₂.z b o (z₁ b o e)
          refine bind_tg (s := { s with heap := h₂, toks := tk₂ }) C.rm.hd I₂ hts (hI.keeps z₂) hb fun h₃ tk₃ I₃ N₃ k₃ => ?_
          have S₃ : S (i + 1) h₃ := W.frame _ _ _ S₂ fun b hb o e => k₃ b o (hfp b hb).1 e
          have hd₃ : h₃.get? D = some { cls := .type "list", data := .seq ws m } := k₃ D _ hnD hd₂
          have z₃ : ∀ b o, zf.get? b = some o → (Fz (Wl c fr₂ αs₁ σ₁) h₃).get? b = some o := fun b o e => N₃.z b o (z₂ b o e)
          have N₁₃ := (N₁.trans N₂).trans N₃
          refine hT vs₂ αs₁ σ₁ { s with heap := h₃, toks := tk₃ } (fun u s₅ => match u with | some x => wpAny (model c.prog c.w) c.A (call (.builtin "list.append") [.ref D, x]) (fun _ s₆ => J s₆) E' s₅ | none => J s₅) E' I₃ (bind_ok hr₁ hn |> fun q e => q (by rw [e]; rfl)) z₃ (fun y σ₂ ey u αs₄ h₄ tk₄ I₄ N₄ k₄ ru => ?_) (fun ex nt e h₅ tk₅ X => ?_)
          · rw [ey] at hr₁
            simp only [Out.bind] at hr₁
            have S₄ : S (i + 1) h₄ := W.frame _ _ _ S₃ fun b hb o e => k₄ b (.inl hb) o e
            have hd₄ : h₄.get? D = some { cls := .type "list", data := .seq ws m } := k₄ D (.inr hDm) _ hd₃
            have N₁₄ := N₁₃.trans N₄
            have R₄ := ((N₂.trans N₃).trans N₄).rda R₁
            cases u with
            | none =>
              cases y with
              | some y => exact ru.elim
              | none =>
                refine ⟨ds.length + 1 - (i + 1), by omega, i + 1, vs₂, αs₄, σ₂, h₄, tk₄, ws, m, rs, rfl, rfl, hlt, I₄, N₁₄, S₄, hd₄, R₄, by omega, ?_⟩
                rw [hr₁]
                cases turns f tg vs₂ (ds.drop (i + 1)) σ₂ <;> rfl
            | some x =>
              cases y with
              | none => exact ru.elim
              | some y =>
                refine append_at (hsz := by rw [size_of R₄, sizeLine_eq]; omega) hd₄ fun h₅ hs₅ hd₅ => ?_
                obtain ⟨I₅, N₅⟩ := I₄.touch (l := [D]) (h' := h₅) (by simpa using hDm) (by simpa using hnf D hDm) (by simpa using hnD) (fun b o hb e => hs₅.extBut b o (by simpa using hb) e) (by simp only [List.mem_singleton]; rintro b rfl; exact ⟨_, hd₅⟩)
                refine ⟨ds.length + 1 - (i + 1), by omega, i + 1, vs₂, αs₄, σ₂, h₅, tk₄, ws.push x, m + 1, rs ++ [y], rfl, rfl, hlt, I₅, N₁₄.trans N₅, W.frame _ _ _ S₄ fun b hb o e => hs₅.extBut b o (hfp b hb).2 e, hd₅, ?_, by rw [List.length_append, List.length_singleton]; omega, ?_⟩
                · rw [Array.toList_push]
                  exact (N₅.rda R₄).append (.one (N₅.rd ru))
                · rw [hr₁]
                  cases turns f tg vs₂ (ds.drop (i + 1)) σ₂ <;> simp [Out.bind]
          · -- an exception
            have hex : r = .ex := by rw [hr₁, ex]; rfl
            obtain ⟨e₀, outer, L, g1, g2, g3⟩ := I₃.ek.frame
            refine exn_noted (s := { s with heap := h₅, toks := tk₅ }) (c := c.deep fr₂) (I₃.deep.st.fit) C.fm g1 g2 g3 X fun h₆ X₆ => ?_
            obtain ⟨mm, hns, _⟩ := I₃.fv.loc
            exact hx hex e h₆ tk₅ ((back_exn X₆).before N₁₃) ⟨mm, exn_own X₆ hCm hns⟩
        · exact bind_many hm hb
        · obtain ⟨v, rfl, h₁⟩ := h₁
          refine wpAny_bind (wpAny_mono h₁ (fun _ s₂ h₂ => wpAny_bind (wpAny_mono h₂ (fun _ s₃ h₃ => wpAny_bind (wpAny_mono h₃ (fun ok s₄ h₄ => ?_) fun _ _ e => e)) fun _ _ e => e)) fun _ _ e => e)
          cases ok with
          | false => exact wpAny_pure ⟨rfl, h₄⟩
          | true => exact wpAny_bind (wpAny_bind (wpAny_mono h₄ (fun x s₅ h₅ => wpAny_bind (wpAny_mono h₅ (fun _ s₆ h₆ => wpAny_pure (wpAny_pure ⟨rfl, h₆⟩)) fun _ _ h' => h')) fun _ _ h' => h'))
    · obtain rfl : i = ds.length := by omega
      rw [List.drop_length] at hr₁
      simp only [turns, Out.bind, List.append_nil] at hr₁
      refine wpAny_mono (W.done _ (fun s₁ => R (.ok .next) s₁) _ S₁ fun h₂ tk₂ k₂ => ?_) (fun r' s₁ h₁ => ?_) fun _ _ e => e
      · subst hfr
        have hdj : ∀ b ∈ [cenv.locals, D], b ∉ wr := fun b hb q => by
          simp only [List.mem_cons, List.not_mem_nil, or_false] at hb
          rcases hb with rfl | rfl
          · exact (hno _ q).1 rfl
          · exact hDw q
        obtain ⟨S₂, N₂⟩ := I₁.st.less (h' := h₂) (fun L hL q => hnf L (hwr L q) hL) hdj k₂
        obtain ⟨mm, hns, _⟩ := I₁.fv.loc
        refine hR rs σ₁ hr₁ αs₁ h₂ tk₂ ws m S₂ (N₁.trans N₂) ⟨mm, hns.at' fun o e => k₂ _ o (fun q => (hno _ q).1 rfl) e⟩ (k₂ D _ hDw hd₁) (R₁.keeps fun b o e => ?_)
        obtain ⟨e1, e2⟩ := fz_iff.mp e
        refine fz_iff.mpr ⟨k₂ b o (fun q => e2 (mem_Wl.mpr (.inl (hwr b q)))) e1, fun q => e2 (mem_Wl.mpr ?_)⟩
        rcases mem_Wl.mp q with q | q | q
        · exact .inl (List.mem_append.mpr (.inl q))
        · exact .inr (.inl q)
        · exact .inr (.inr q)
      · obtain ⟨rfl, h₁⟩ := h₁
        exact wpAny_pure h₁
  · obtain ⟨m, hd⟩ := hd
    exact ⟨0, vs₀, αs, σ, s.heap, s.toks, #[], m, [], rfl, rfl, Nat.zero_le _, I₀, .refl, hS, hd, .nil, Nat.le_refl _, by rw [hr, List.drop_zero]; cases turns f tg vs₀ ds σ <;> rfl⟩
end
section
variable {n : Nat} {lf : Addr} {Fo : Orc} {c : Cx} {fr fr₂ : List Addr} {sc sc' : Scope} {tb tb' : List (Str × Nat)} {env cenv : Env} {vs : Vs} {αs αs' αs'' : List (Addr × Addr)} {σ σ' σ'' : Sg} {s : Shared} {h h₁ h₂ h₃ h' h'' : Heap}
noncomputable def SoundTC (n : Nat) (lf : Addr) (Fo : Orc) (xs : XL) : Prop :=
  ∀ (c : Cx), Cok n lf c → ∀ (fr : List Addr) (sc : Scope) (tb : List (Str × Nat)) (env : Env) (vs : Vs) (αs : List (Addr × Addr)) (σ : Sg) (s : Shared) (Q : Bool → Shared → Prop) (E : Value → Shared → Prop),
    Inv c fr tb env vs αs σ s.heap → Gk sc env → okL c.T sc tb xs = true → evC c.T Fo vs xs σ ≠ .stuck →
    (∀ b σ', evC c.T Fo vs xs σ = .ok b σ' → ∀ αs' h' tk, Inv c fr tb env vs αs' σ' h' → Nx c fr αs σ s.heap αs' σ' h' → Q b { s with heap := h', toks := tk }) →
    HX c lf fr αs σ s (evC c.T Fo vs xs σ) E →
    wpAny (model c.prog c.w) c.A (testsE (xlE c.T tb xs) env) Q E s
theorem sound_TC_nil : SoundTC n lf Fo .nil := by
  intro c C fr sc tb env vs αs σ s Q E I G ok hn hq hx
  simp only [q_xlE_0]
  exact wpAny_tests_nil (hq true σ (by simp only [q_evC_0]) αs s.heap s.toks I .refl)
theorem sound_TC_cons {x : X} {xs : XL} (H : SoundT n lf Fo x) : SoundTC n lf Fo (.cons x xs) := by
  intro c C fr sc tb env vs αs σ s Q E I G ok hn hq hx
  simp only [q_okL_1, Bool.and_eq_true] at ok
  cases xs with
  | cons y r => exact absurd (by simp only [q_evC_2]) hn
  | nil =>
    simp only [q_evC_1] at hn hq hx
    simp only [q_xlE_0, q_xlE_1]
    refine wpAny_tests_one (H.run C I G ok.1 rfl hn (fun V σ h => ?_) hx (fun b σ₁ αs₁ h₁ t₁ hr I₁ N₁ _ => ?_))
    · split at h
      · exact ⟨_, rfl⟩
      · exact absurd rfl h
    · exact hq b σ₁ hr αs₁ h₁ t₁ I₁ N₁
theorem deep_not {b : Addr} (hb : b ∈ fr) : b ∈ (c.deep fr).amb := List.mem_append.mpr (.inl hb)
theorem turn_gen {elt : X} {ifs : XL} {fp : List Addr} {zf : Heap} (H : SoundX n lf Fo elt) (H' : SoundTC n lf Fo ifs) (C : Cok n lf c) (G : Gk sc' cenv) (ok : okX c.T sc' tb' elt = true) (ok' : okL c.T sc' tb' ifs = true)
    (hnf : ∀ b ∈ fr₂, b ∉ c.frs.filterMap (·.frame)) (hfp : ∀ b ∈ fp, b ∈ fr₂ ∨ ∃ o, zf.get? b = some o) :
    TurnOK c lf fr₂ tb' cenv fp zf (fun vs σ => (evC c.T Fo vs ifs σ).bind fun b σ => match b with
        | true => (ev c.T Fo vs elt σ).bind fun v σ => (esc v σ).bind fun y σ => .ok (some y) σ
        | false => .ok none σ) (xlE c.T tb' ifs) (xE c.T tb' elt) := by
  intro vs₁ αs₁ σ₁ s₁ K E I₁ hn hz hK hx
  have kept : ∀ {αs₂ : List (Addr × Addr)} {σ₂ : Sg} {h₂ : Heap}, Nx (c.deep fr₂) [] αs₁ σ₁ s₁.heap αs₂ σ₂ h₂ → ∀ b, b ∈ fp ∨ b ∈ fr₂ → ∀ o, s₁.heap.get? b = some o → h₂.get? b = some o := by
    intro αs₂ σ₂ h₂ N b hb o e
    have own : b ∈ fr₂ → h₂.get? b = some o := fun hb => (N.am b (deep_not hb) o e).2 (hnf b hb)
    rcases hb with hb | hb
    · rcases hfp b hb with q | ⟨o', q⟩
      · exact own q
      · have z := fz_iff.mp (hz b o' q)
        rw [e] at z; cases z.1
        exact (N.fz b o (fun q => z.2 (deep_W.mp q)) e).1
    · exact own hb
  refine H' (c.deep fr₂) (C.amb _) [] sc' tb' cenv vs₁ αs₁ σ₁ s₁ _ E I₁.deep G ok' (bind_ok rfl hn) (fun b σ₂ eb αs₂ h₂ tk₂ I₂ N₂ => ?_) (fun e => hx (by dsimp only at e ⊢; rw [e]; rfl))
  dsimp only at hn hK hx eb
  rw [eb] at hn hK hx
  simp only [ok_bind] at hn hK hx
  cases b with
  | false =>
    simp only [Bool.false_eq_true, if_false]
    exact hK none σ₂ rfl none αs₂ h₂ tk₂ (I₁.back N₂ I₂.st) (back_nx N₂) (kept N₂) trivial
  | true =>
    simp only [if_true]
    have hx₂ : HX (c.deep fr₂) lf [] αs₂ σ₂ { s₁ with heap := h₂, toks := tk₂ } ((ev c.T Fo vs₁ elt σ₂).bind fun v σ => (esc v σ).bind fun y σ => Out.ok (some y) σ) E := HX.after (s := s₁) hx N₂ id
    refine SoundX.run (s := { s₁ with heap := h₂, toks := tk₂ }) (c := c.deep fr₂) H (C.amb _) I₂ G ok rfl hn hx₂ (fun V σ₃ v αs₃ h₃ tk₃ hr I₃ N₃ R₃ hx₃ => ?_)
    dsimp only at hr
    rw [hr] at hn hK
    cases he : esc V σ₃ with
    | stuck => rw [he] at hn; exact absurd rfl hn
    | ex => exact absurd he esc_ne
    | ok y σ₄ =>
      rw [he, ok_bind] at hK
      obtain ⟨I₄, N₄, R₄⟩ := esc_ok I₃ R₃ he
      have N₁₄ := (N₂.trans N₃).trans N₄
      exact hK (some y) σ₄ rfl (some v) αs₃ h₃ tk₃ (I₁.back N₁₄ I₄.st) (back_nx N₁₄) (kept N₁₄) (R₄.keeps fun b o e => (Fz_eq fun b => deep_W).mp e)
theorem turn_keep {i : Nat} {p : Pos} {fp : List Addr} {zf : Heap} (ok : okX c.T sc' tb' (.var i p) = true) :
    TurnOK c lf fr₂ tb' cenv fp zf (fun vs σ => (evC c.T Fo vs .nil σ).bind fun b σ => match b with
        | true => (ev c.T Fo vs (.var i p) σ).bind fun v σ => (esc v σ).bind fun y σ => .ok (some y) σ
        | false => .ok none σ) (xlE c.T tb' .nil) (xE c.T tb' (.var i p)) := by
  intro vs₁ αs₁ σ₁ s₁ K E I₁ hn hz hK hx
  simp only [q_evC_0, ok_bind, q_ev_1] at hn hK
  simp only [q_xlE_0]
  refine wpAny_tests_nil ?_
  simp only [if_true]
  obtain ⟨nm, hk, hd, hnm⟩ := okVar_get (by simpa [q_okX_0, q_okX_1, q_okX_2, q_okX_3, q_okX_4, q_okX_5, q_okX_6, q_okX_7, q_okX_8, q_okX_9, q_okX_10, q_okX_11, q_okX_12, q_okX_13, q_okX_14, q_okX_15, q_okX_16, q_okX_17, q_okX_18, q_okX_19, q_okX_20] using ok)
  simp only [q_xE_1, hnm]
  cases hv : getV vs₁ i with
  | none => rw [hv] at hn; exact absurd rfl hn
  | some V =>
    rw [hv, ok_bind] at hn hK
    cases he : esc V σ₁ with
    | stuck => rw [he] at hn; exact absurd rfl hn
    | ex => exact absurd he esc_ne
    | ok y σ₄ =>
      rw [he, ok_bind] at hK
      have fin : ∀ v, VR (Fz (Wl c fr₂ αs₁ σ₁) s₁.heap) αs₁ v V → K (some v) s₁ := fun v R => by
        obtain ⟨I₄, N₄, R₄⟩ := esc_ok I₁ R he
        exact hK (some y) σ₄ rfl (some v) αs₁ s₁.heap s₁.toks I₄ N₄ (fun _ _ _ e => e) R₄
      rcases hk with hk | hk
      · obtain ⟨m, hns, hm⟩ := I₁.fv.loc
        obtain ⟨v, e1, e2⟩ := hm i nm V hk hv
        exact wpAny_Name (wpAny_loadName_local I₁.ek.kind (I₁.ek.loc i nm hk) hns e1 (fin v e2)) hd
      · obtain ⟨a, ov, e1, e2, e3⟩ := I₁.fv.cel i nm hk
        obtain ⟨v, e4, e5⟩ := e3 V hv
        exact wpAny_Name (wpAny_loadName_cell I₁.ek.kind (I₁.ek.cel i nm hk) e1 (e4 ▸ e2) (fin v e5)) hd
theorem nodup_inj : ∀ {tb : List (Str × Nat)}, nodupTb tb = true → ∀ (i j : Nat) (nm : Str) (k k' : Nat), tb[i]? = some (nm, k) → tb[j]? = some (nm, k') → k ≠ 0 → k' ≠ 0 → i = j
  | [], _, i, j, nm, k, k', h1, _, _, _ => by simp at h1
  | (x, m) :: tb, hn, i, j, nm, k, k', h1, h2, hk, hk' => by
    have mem : ∀ {i : Nat} {k : Nat}, tb[i]? = some (nm, k) → k ≠ 0 → nm ∈ (tb.filter fun q => q.2 != 0).map (·.1) := fun {i k} e hk =>
      List.mem_map.mpr ⟨(nm, k), List.mem_filter.mpr ⟨List.mem_of_getElem? e, by simpa using hk⟩, rfl⟩
    unfold nodupTb at hn
    simp only [decide_eq_true_eq] at hn
    have hn' : nodupTb tb = true := by
      unfold nodupTb
      simp only [decide_eq_true_eq]
      rw [List.filter_cons] at hn
      split at hn
      · rw [List.map_cons, List.nodup_cons] at hn; exact hn.2
      · exact hn
    have hhead : m ≠ 0 → x ∉ (tb.filter fun q => q.2 != 0).map (·.1) := fun hm => by
      rw [List.filter_cons, if_pos (by simpa using hm), List.map_cons, List.nodup_cons] at hn
      exact hn.1
    cases i with
    | zero =>
      simp only [List.getElem?_cons_zero, Option.some.injEq, Prod.mk.injEq] at h1
      obtain ⟨rfl, rfl⟩ := h1
      cases j with
      | zero => rfl
      | succ j => exact absurd (mem (by simpa using h2) hk') (hhead hk)
    | succ i =>
      cases j with
      | zero =>
        simp only [List.getElem?_cons_zero, Option.some.injEq, Prod.mk.injEq] at h2
        obtain ⟨rfl, rfl⟩ := h2
        exact absurd (mem (by simpa using h1) hk) (hhead hk')
      | succ j => rw [nodup_inj hn' i j nm k k' (by simpa using h1) (by simpa using h2) hk hk']
structure OkTb (sc : Scope) (tb tb' : List (Str × Nat)) : Prop where
  kind : sc.kind = .function
  nocell : ∀ x ∈ sc.names, x.2 ≠ .cell
  loc : ∀ x ∈ sc.names, x.2 = .local → sc.names.lookup x.1 = some .local
  free : ∀ x ∈ sc.names, x.2 = .free → ∃ i : Nat, tb[i]? = some (x.1, 2)
  k1 : ∀ (i : Nat) (nm : Str), tb'[i]? = some (nm, 1) → sc.names.lookup nm = some .local
  k2 : ∀ (i : Nat) (nm : Str), tb'[i]? = some (nm, 2) → sc.names.lookup nm = some .free ∧ tb[i]? = some (nm, 2)
theorem okTb_of (h : okTb sc tb tb' = true) : OkTb sc tb tb' := by
  unfold okTb at h
  simp only [Bool.and_eq_true, List.all_eq_true, decide_eq_true_eq] at h
  obtain ⟨⟨⟨⟨h1, h2⟩, h3⟩, h4⟩, h5⟩ := h
  have at_i : ∀ (i : Nat) (nm : Str) (k : Nat), tb'[i]? = some (nm, k) → (k == 0 || (k == 1 && decide (sc.names.lookup nm = some .local)) || (k == 2 && decide (sc.names.lookup nm = some .free) && decide (tb[i]? = some (nm, 2)))) = true := by
    intro i nm k e
    have hi : i < tb'.length := (List.getElem?_eq_some_iff.mp e).1
    have := h5 i (List.mem_range.mpr hi)
    rw [e] at this
    exact this
  refine ⟨h1, h2, fun x hx e => h3 x hx e, fun x hx e => ?_, fun i nm e => ?_, fun i nm e => ?_⟩
  · obtain ⟨_, hm⟩ := h4 x hx e
    obtain ⟨q, hq, e2⟩ := List.mem_map.mp hm
    obtain ⟨hq1, hq2⟩ := List.mem_filter.mp hq
    obtain ⟨i, hi⟩ := List.getElem?_of_mem hq1
    refine ⟨i, ?_⟩
    rw [hi]
    obtain ⟨a, b⟩ := q
    simp only [beq_iff_eq] at hq2 e2
    rw [hq2, e2]
  · simpa using at_i i nm 1 e
  · simpa using at_i i nm 2 e
theorem comp_enter {C D : Addr} {wr : List Addr} {cl : List (Str × Addr)} {tg : Tg} (I : Inv c fr tb env vs αs σ h₁) (W : Newer ([C, D] ++ wr) h₁ h₂) (T : OkTb sc' tb tb') (hd : nodupTb tb' = true)
    (hcl : (∀ nm a, cl.lookup nm = some a → env.cells.lookup nm = some a) ∧ (∀ nm, (nm, NameKind.free) ∈ sc'.names → ∃ a, cl.lookup nm = some a))
    (htg : ∀ (i : Nat) (nm : Str), tb'[i]? = some (nm, 1) → i ∈ tgSlots tg) (htg2 : ∀ i ∈ tgSlots tg, ∃ nm, tb'[i]? = some (nm, 1)) {m : Str → Option Value} (hns : h₂.Ns C m) :
    Inv (c.deep fr) ([C, D] ++ wr) tb' (compEnvC sc' cl C env) (clearT vs tg) αs σ h₂ ∧ Gk sc' (compEnvC sc' cl C env) := by
  have celN : ∀ nm a, (compEnvC sc' cl C env).cells.lookup nm = some a → env.cells.lookup nm = some a := fun nm a e => hcl.1 nm a e
  have lookMem : ∀ nm k, sc'.names.lookup nm = some k → (nm, k) ∈ sc'.names := fun nm k e => mem_of_lookup e
  refine ⟨⟨I.st.enter W, ⟨T.kind, I.ek.glob, I.ek.blt, ?_, fun i nm e => ?_, fun i nm e => ?_, nodup_inj hd, .inl ?_, fun nm a e => ?_, fun x y a e1 e2 => I.ek.celInj x y a (celN _ _ e1) (celN _ _ e2)⟩, ⟨m, hns, fun i nm V e g => ?_⟩, fun i nm e => ?_⟩, fun nm e => ?_⟩
  · obtain ⟨e₀, outer, L, g1, g2, g3⟩ := I.ek.frame
    exact ⟨e₀, outer, L, g1, g2, g3⟩
  · rw [kindOf_comp (T.k1 i nm e), if_neg (by simp)]
  · obtain ⟨e1, e2⟩ := T.k2 i nm e
    rw [kindOf_comp e1, if_pos]
    simp [I.ek.kind, I.ek.cel i nm e2]
  · show C ∈ _; simp
  · have e' := celN nm a e
    have q := (I.ek.celIn nm a e').1
    refine ⟨.inr (List.mem_append.mpr q), ?_⟩
    show a ≠ C
    rintro rfl
    obtain ⟨o, ho⟩ := I.st.thr a q
    rw [W.new a (by simp)] at ho; cases ho
  · have := (clear_agree vs tg).2 i (htg i nm e)
    rw [this] at g; cases g
  · obtain ⟨e1, e2⟩ := T.k2 i nm e
    obtain ⟨a, ov, f1, f2, f3⟩ := I.fv.cel i nm e2
    obtain ⟨a', ha'⟩ := hcl.2 nm (lookMem _ _ e1)
    have : a' = a := by have := hcl.1 nm a' ha'; rw [f1] at this; cases this; rfl
    subst this
    refine ⟨a', ov, ha', f2.keeps W.keep, fun V g => ?_⟩
    have hi : i ∉ tgSlots tg := fun q => by
      obtain ⟨nm', e'⟩ := htg2 i q
      rw [e] at e'; cases e'
    have : getV (clearT vs tg) i = getV vs i := by unfold getV; rw [(clear_agree vs tg).1.2 i hi]
    rw [this] at g
    obtain ⟨v, e4, e5⟩ := f3 V g
    exact ⟨v, e4, e5.mono W.z ⟨[], by simp⟩⟩
  · rw [kindOf_comp e, if_neg (by simp)]
end
section
variable {n : Nat} {lf : Addr} {Fo : Orc} {c : Cx} {fr fr₂ : List Addr} {sc sc' : Scope} {tb tb' : List (Str × Nat)} {env cenv : Env} {vs : Vs} {αs αs' αs'' : List (Addr × Addr)} {σ σ' σ'' : Sg} {s : Shared} {h h₁ h₂ h₃ h' h'' : Heap}
theorem exn_off {W : List Addr} {nt : Bool} {e : Addr} (X : Exn c lf W h nt e h') {x : Addr} (u : Un c W h x) (hnf : x ∉ c.frs.filterMap (·.frame)) {m : Str → Option Value} (hd : h'.Ns x m) (kb : ∀ b o, b ≠ x → h'.get? b = some o → h''.get? b = some o) : Exn c lf W h nt e h'' := by
  obtain ⟨o1, o2⟩ := u.off
  obtain ⟨oD, hoD, hnD⟩ := Ns.notFields hd
  have ne : ∀ {b : Addr} {o : Obj} {vs : Array Value}, h'.get? b = some o → o.data = .fields vs → b ≠ x := fun {b o vs} e1 e2 q => by
    subst q; rw [hoD] at e1; cases e1; exact hnD _ e2
  refine ⟨fun b o hb q => kb b o (o1 b o hb q) (X.fz b o hb q), fun b hb o q => ?_, ?_, X.un, X.base, ?_⟩
  · obtain ⟨⟨sl, e1⟩, e2⟩ := X.am b hb o q
    exact ⟨⟨sl, kb _ _ (o2 b hb o q) e1⟩, fun hnf => kb _ _ (o2 b hb o q) (e2 hnf)⟩
  · refine ff_of X.ff fun L hL => ?_
    obtain ⟨_, o, ho, hd⟩ := X.ff.mem hL
    exact ⟨o, kb L o (fun q => hnf (q ▸ hL)) ho, hd⟩
  · obtain ⟨oe, vs, h1, h2, h3, h4, h5⟩ := X.ex
    refine ⟨oe, vs, kb _ _ (ne h1 h3) h1, h2, h3, h4, ?_⟩
    rcases h5 with h5 | ⟨T, oT, ts, a1, a2, a3, a4, a5, a6, a7⟩
    · exact .inl h5
    · exact .inr ⟨T, oT, ts, a1, a2, kb _ _ (ne a3 a4) a3, a4, a5, a6, a7⟩
theorem comp_block {elt iter : PySem.Expr} {ifs : List PySem.Expr} {pos : Pos} {f : Vs → Sg → Out (Option PyData)} {tg : Tg} {ds : List PyData} {zf : Heap} {I : Addr} {wr fp : List Addr} {S : Nat → Heap → Prop} {use : Option (Value → Sem Unit)} {cl : List (Str × Addr)}
    (C : Cok n lf c) (Iv : Inv c fr tb env vs αs σ h₁) (k : ∀ b o, h₁.get? b = some o → s.heap.get? b = some o) (hw : ∀ b ∈ wr, h₁.get? b = none ∧ ∃ o, s.heap.get? b = some o)
    (T : OkTb sc' tb tb') (hd : nodupTb tb' = true) (hcl : (∀ nm a, cl.lookup nm = some a → env.cells.lookup nm = some a) ∧ (∀ nm, (nm, NameKind.free) ∈ sc'.names → ∃ a, cl.lookup nm = some a))
    (htg : ∀ (i : Nat) (nm : Str), tb'[i]? = some (nm, 1) → i ∈ tgSlots tg) (htg2 : ∀ i ∈ tgSlots tg, ∃ nm, tb'[i]? = some (nm, 1))
    (W : ItS c.prog c.w c.A tb' tg I wr fp ds zf S) (hS : S 0 s.heap) (hfp : ∀ b ∈ fp, b ∈ wr ∨ (b ∉ fr ∧ b ∉ c.amb ∧ ∃ o, h₁.get? b = some o)) (hz : ∀ b o, zf.get? b = some o → (Fz (Wl c fr αs σ) h₁).get? b = some o) (hlen : ds.length ≤ 100000)
    (hT : ∀ (fr₂ : List Addr) (cenv : Env), (∀ b ∈ fr₂, b ∉ c.frs.filterMap (·.frame)) → (∀ b ∈ wr, b ∈ fr₂) → Gk sc' cenv → TurnOK (c.deep fr) lf fr₂ tb' cenv fp zf f ifs elt)
    {r : Out (List PyData)} (hr : r = turns f tg vs ds σ) (hn : r ≠ .stuck) {Q : Value → Shared → Prop} {E : Value → Shared → Prop}
    (hq : ∀ rs σ', r = .ok rs σ' → ∀ C D αs' h' tk ws m mm, Inv c (fr ++ [C]) tb env vs αs' σ' h' → Nx c fr αs σ h₁ αs' σ' h' → h₁.get? C = none → C ∉ fr → NotOwn env C → C ∉ c.frs.filterMap (·.frame) → h'.Ns C mm → h'.get? D = some { cls := .type "list", data := .seq ws m } → D ∉ Wl c (fr ++ [C]) αs' σ' → NotOwn env D →
      RdA (Fz (Wl c (fr ++ [C]) αs' σ') h') ws.toList rs → compPost (model c.prog c.w) c.A E use Q (.ref D) C (.ok .next) { s with heap := h', toks := tk })
    (hx : r = .ex → ∀ nt e h' tk, Exn c lf (Wl c fr αs σ) h₁ nt e h' → E (.ref e) { s with heap := h', toks := tk }) :
    wpAny (model c.prog c.w) c.A (newList []) (fun acc s₃ => wpAny (model c.prog c.w) c.A (newFunctionEnv sc' env.globals cl [] env.qual none .none (some env)) (fun cenv s₄ =>
      codeAny (model c.prog c.w) c.A (.compStart (.ListComp elt [⟨tgE tb' tg, iter, ifs, 0⟩] sc' pos) 0 (.ref I) acc { cenv with scope := relabel sc' env }) (compPost (model c.prog c.w) c.A E use Q acc cenv.locals) s₄) E s₃) E s := by
  refine wpAny_newObj_type (wpAny_newFunctionEnv T.nocell (by intro y hy; simp at hy) (fun h₂ hns₂ hsb₂ => ?_) T.kind)
  dsimp only at hns₂ hsb₂ ⊢
  generalize hH2 : s.heap.push { cls := .type "list", dict := none, data := .seq ([] : List Value).toArray } = H2 at hns₂ hsb₂ ⊢
  generalize hDd : s.heap.objs.size = D at hns₂ hsb₂ ⊢
  generalize hCd : H2.objs.size = Cc at hns₂ hsb₂ ⊢
  have hCD : Cc = D + 1 := by rw [← hCd, ← hH2, Heap.size_push, hDd]
  have hDC : D ≠ Cc := by omega
  have fD : s.heap.get? D = none := hDd ▸ fresh
  have fC : s.heap.get? Cc = none := Heap.get?_none_of_le (by rw [hDd]; omega)
  have ne : ∀ {b : Addr} {o : Obj}, s.heap.get? b = some o → b ≠ Cc ∧ b ≠ D := fun {b o} e => ⟨fun q => (by rw [q, fC] at e; cases e), fun q => (by rw [q, fD] at e; cases e)⟩
  have old : ∀ b o, s.heap.get? b = some o → h₂.get? b = some o := fun b o e => hsb₂.extBut b o (ne e).1 (Heap.get?_push_of_some _ (hH2 ▸ Heap.get?_push_of_some _ e))
  have hD₂ : h₂.get? D = some { cls := .type "list", data := .seq #[] } := hsb₂.extBut _ _ hDC (Heap.get?_push_of_some _ (hH2 ▸ hDd ▸ Heap.get?_push_size _ rfl))
  have back : ∀ {b : Addr}, s.heap.get? b = none → h₁.get? b = none := fun {b} e => by
    cases q : h₁.get? b with
    | none => rfl
    | some o => rw [k b o q] at e; cases e
  have Nw : Newer ([Cc, D] ++ wr) h₁ h₂ := by
    refine ⟨fun a ha => ?_, fun a ha => ?_, fun b o e => old b o (k b o e)⟩
    · simp only [List.cons_append, List.nil_append, List.mem_cons] at ha
      rcases ha with rfl | rfl | ha
      · exact back fC
      · exact back fD
      · exact (hw a ha).1
    · simp only [List.cons_append, List.nil_append, List.mem_cons] at ha
      rcases ha with rfl | rfl | ha
      · obtain ⟨o, _, _, e, _⟩ := hns₂; exact ⟨o, e⟩
      · exact ⟨_, hD₂⟩
      · obtain ⟨o, e⟩ := (hw a ha).2; exact ⟨o, old _ _ e⟩
  obtain ⟨I₂, G₂⟩ := comp_enter (C := Cc) (D := D) (wr := wr) Iv Nw T hd hcl htg htg2 hns₂
  have noF : ∀ b ∈ [Cc, D] ++ wr, b ∉ c.frs.filterMap (·.frame) := fun b hb q => by
    obtain ⟨_, o, ho, _⟩ := Iv.st.ff.mem q
    rw [Nw.new b hb] at ho; cases ho
  have own1 : ∀ b, h₁.get? b = none → NotOwn env b := fun b hb => by
    refine ⟨fun q => ?_, fun nm q => ?_⟩
    · obtain ⟨o, e⟩ := Iv.st.thr env.locals Iv.ek.locIn
      rw [← q, hb] at e; cases e
    · obtain ⟨o, e⟩ := Iv.st.thr b (Iv.ek.celIn nm b q).1
      rw [hb] at e; cases e
  have own2 : ∀ b, b ≠ Cc → (h₁.get? b = none ∨ (b ∉ fr ∧ b ∉ c.amb)) → NotOwn (compEnvC sc' cl Cc env) b := fun b hb hb' => by
    refine ⟨hb, fun nm q => ?_⟩
    have q' := hcl.1 nm b q
    rcases hb' with hb' | hb'
    · exact (own1 b hb').2 nm q'
    · exact (Iv.ek.celIn nm b q').1.elim hb'.1 hb'.2
  have wrN : ∀ b ∈ wr, b ≠ Cc ∧ b ≠ D := fun b hb => let ⟨o, e⟩ := (hw b hb).2; ne e
  have hS₂ : S 0 h₂ := W.frame _ _ _ hS fun b _ o e => old b o e
  have Nh : ∀ {b : Addr}, h₁.get? b = none → Un c (Wl c fr αs σ) h₁ b := fun {b} e o ho => by rw [e] at ho; cases ho
  have loop : ∀ s₃ : Shared, s₃ = { s with heap := h₂, toks := s.toks + ([] : List (Str × Value)).length } →
      codeAny (model c.prog c.w) c.A (.compLoop (.ListComp elt [⟨tgE tb' tg, iter, ifs, 0⟩] sc' pos) 0 (.ref I) (.ref D) (compEnvC sc' cl Cc env)) (compPost (model c.prog c.w) c.A E use Q (.ref D) Cc) s₃ := by
    rintro s₃ rfl
    refine comp_loop (c := c.deep fr) (s := { s with heap := h₂, toks := s.toks + ([] : List (Str × Value)).length }) (C.amb _) W (hT _ _ noF (fun b hb => List.mem_append.mpr (.inr hb)) G₂) (fun i hi => ?_) noF (fun b hb => own2 b (wrN b hb).1 (.inl (hw b hb).1)) (own2 D hDC (.inl (back fD))) (fun b hb => ?_) (fun q => (wrN D q).2 rfl) hlen I₂ hS₂ ⟨_, hD₂⟩ (fun b o e => Nw.z b o (hz b o e)) (hr.trans turns_clear.symm) hn (fun rs σ₃ er αs₃ h₃ tk ws m S₃ N₃ hns₃ hd₃ R₃ => ?_) (fun ex e h₃ tk X hns₃ => ?_)
    · obtain ⟨nm, e⟩ := htg2 i hi
      refine .inl ⟨?_, by show Cc ∈ [Cc, D] ++ wr; simp⟩
      rw [e, List.getD_eq_getElem?_getD, e]; rfl
    · rcases hfp b hb with q | ⟨q1, q2, o, q3⟩
      · exact ⟨own2 b (wrN b q).1 (.inl (hw b q).1), (wrN b q).2⟩
      · have := ne (k b o q3)
        exact ⟨own2 b this.1 (.inr ⟨q1, q2⟩), this.2⟩
    · obtain ⟨mm, hns₃⟩ := hns₃
      have hI := Iv.half Nw N₃ S₃ (C := Cc) (by simp) (by show Cc ∈ [Cc, D]; simp)
      have apC := Nw.apart Iv.st (a := Cc) (by simp)
      have apD := Nw.apart Iv.st (a := D) (by simp)
      refine hq rs σ₃ er Cc D αs₃ h₃ tk ws m mm hI (leave_nx Nw N₃) (back fC) apC.1 (own1 _ (back fC)) (noF _ (by simp)) hns₃ hd₃ (fun q => ?_) (own1 _ (back fD)) (R₃.keeps fun b o e => ?_)
      · rcases mem_Wl.mp q with q | q | ⟨j, p, dl, g1, g2, g3, g4⟩
        · rcases List.mem_append.mp q with q | q
          · exact apD.1 q
          · exact hDC (List.mem_singleton.mp q)
        · exact apD.2.1 q
        · exact (S₃.ap2 j p dl g1 g2 D g4).1 (show D ∈ [Cc, D] by simp)
      · obtain ⟨e1, e2⟩ := fz_iff.mp e
        refine fz_iff.mpr ⟨e1, fun q => e2 (ent_W.mpr ?_)⟩
        rcases mem_Wl.mp q with q | q | q
        · rcases List.mem_append.mp q with q | q
          · exact .inr (mem_Wl.mpr (.inl q))
          · rw [List.mem_singleton.mp q]; exact .inl (show Cc ∈ [Cc, D] by simp)
        · exact .inr (mem_Wl.mpr (.inr (.inl q)))
        · exact .inr (mem_Wl.mpr (.inr (.inr q)))
    · obtain ⟨mm, hns₃⟩ := hns₃
      have X₁ := leave_exn Nw X
      have fin : ∃ m, h₃.Ns Cc m ∧ ∀ h', Heap.SameBut Cc h₃ h' → ∀ cenv : Env, cenv.locals = Cc → wpAny (model c.prog c.w) c.A (PySem.passOn "comprehension.variables-let-go" (.ref e) cenv : Sem Value) (fun _ _ => False) E { s with heap := h', toks := tk } := by
        refine ⟨mm, hns₃, fun h₄ hs₄ cenv hce => ?_⟩
        have X₂ := exn_off X₁ (Nh (back fC)) (noF _ (by simp)) hns₃ (h'' := h₄) (fun b o hb e => hs₄.extBut b o hb e)
        exact exn_pass (s := { s with heap := h₄, toks := tk }) X₂ fun h₅ X₅ => hx ex true e h₅ tk X₅
      cases use <;> exact fin
  exact codeAny_compStart_list (loop _ rfl) (W.self 0 _ _ _ hS₂ (loop _ rfl))
end
section
variable {n : Nat} {lf : Addr} {Fo : Orc} {c : Cx} {fr fr₂ : List Addr} {sc sc' : Scope} {tb tb' : List (Str × Nat)} {env cenv : Env} {vs : Vs} {αs αs' αs'' : List (Addr × Addr)} {σ σ' σ'' : Sg} {s : Shared} {h h₁ h₂ h₃ h' h'' : Heap}
noncomputable def turnF (T : Tab) (Fo : Orc) (elt : X) (ifs : XL) (vs : Vs) (σ : Sg) : Out (Option PyData) := (evC T Fo vs ifs σ).bind fun b σ => match b with
  | true => (ev T Fo vs elt σ).bind fun v σ => (esc v σ).bind fun y σ => .ok (some y) σ
  | false => .ok none σ
theorem no_fold {T : Tab} {tb : List (Str × Nat)} {x y : X} {sk : SK} {sc : Scope} (ok : okX T sc tb x = true) : ∀ v, foldedSetIterable (skE T sk (xE T tb x) (xE T tb y)) env v = pure v := by
  intro v
  cases sk with
  | it =>
    cases x with
    | dead e => simp [q_okX_20] at ok
    | _ => simp only [skE, q_xE_0, q_xE_1, q_xE_2, q_xE_3, q_xE_4, q_xE_5, q_xE_6, q_xE_7, q_xE_8, q_xE_9, q_xE_10, q_xE_11, q_xE_12, q_xE_13, q_xE_14, q_xE_15, q_xE_16, q_xE_17, q_xE_18, q_xE_19]; rfl
  | _ => simp only [skE]; rfl
theorem srcOf_keep (b : Bool) (sk : SK) : (∀ (f g : Sg → Out V) (σ : Sg), srcOf b sk f g σ = srcOf false sk f g σ) ∨ (b = true ∧ sk = .it) := by
  cases b with
  | false => exact .inl fun _ _ _ => rfl
  | true =>
    cases sk with
    | it => exact .inr ⟨rfl, rfl⟩
    | _ => exact .inl fun _ _ _ => rfl
theorem isVar_inv {x : X} (h : x.isVar = true) : ∃ i p, x = .var i p := by
  cases x with
  | var i p => exact ⟨i, p, rfl⟩
  | _ => exact absurd h Bool.false_ne_true
theorem isNil_inv {x : XL} (h : x.isNil = true) : x = .nil := by
  cases x with
  | nil => rfl
  | _ => exact absurd h Bool.false_ne_true
theorem itemsOf_inv {V : Mine.V} {β : Type} {g : List PyData → Sg → Out β} (h : (itemsOf true V σ).bind g ≠ .stuck) : ∃ ds x, rd σ V = some x ∧ items? x = some ds ∧ ds.length ≤ 100000 ∧ (itemsOf true V σ).bind g = g ds σ := by
  have q : itemsOf true V σ = match (rd σ V).bind items? with | some ds => if (decide (ds.length ≤ 100000) : Bool) then .ok ds σ else .stuck | none => .stuck := rfl
  rw [q] at h ⊢
  cases hr : rd σ V with
  | none => rw [hr] at h; exact absurd rfl h
  | some x =>
    rw [hr] at h
    change (match items? x with | some ds => if (decide (ds.length ≤ 100000) : Bool) then Out.ok ds σ else .stuck | none => .stuck).bind g ≠ .stuck at h
    show ∃ ds x', some x = some x' ∧ _ ∧ _ ∧ (match items? x with | some ds => if (decide (ds.length ≤ 100000) : Bool) then Out.ok ds σ else .stuck | none => .stuck).bind g = g ds σ
    cases hi : items? x with
    | none => rw [hi] at h; exact absurd rfl h
    | some ds =>
      rw [hi] at h
      by_cases hz : ds.length ≤ 100000
      · refine ⟨ds, x, rfl, hi, hz, ?_⟩
        show (if decide (ds.length ≤ 100000) = true then Out.ok ds σ else .stuck).bind g = _
        rw [if_pos (decide_eq_true hz)]; rfl
      · change (if decide (ds.length ≤ 100000) = true then Out.ok ds σ else .stuck).bind g ≠ _ at h
        rw [if_neg (fun q => hz (of_decide_eq_true q))] at h
        exact absurd rfl h
theorem seq_apart (I : Inv c fr tb env vs αs σ h) {a : Addr} {V : Mine.V} (R : VR (Fz (Wl c fr αs σ) h) αs (.ref a) V) {x : PyData} {ds : List PyData} (e1 : rd σ V = some x) (e2 : items? x = some ds) : a ∉ fr ∧ a ∉ c.amb := by
  cases V with
  | d y' =>
    cases e1
    have : ∃ o, (Fz (Wl c fr αs σ) h).get? a = some o := by
      cases x with
      | list l =>
        obtain ⟨a', o', ws', m', e, g, _⟩ := Rd.list R
        cases e; exact ⟨o', g⟩
      | tuple l =>
        obtain ⟨a', o', ws', m', e, g, _⟩ := Rd.tuple R
        cases e; exact ⟨o', g⟩
      | _ => cases e2
    obtain ⟨o', g⟩ := this
    have := (fz_iff.mp g).2
    exact ⟨fun q => this (mem_Wl.mpr (.inl q)), fun q => this (mem_Wl.mpr (.inr (.inl q)))⟩
  | o kk =>
    obtain ⟨pp, hp, e⟩ := R
    cases e
    change (match σ[kk]? with | some (.lst _ ds) => some (PyData.list ds) | _ => none) = some x at e1
    cases hcl : σ[kk]? with
    | none => rw [hcl] at e1; cases e1
    | some cl =>
      cases cl with
      | lst fz es =>
        have := I.st.ap2 kk pp _ hp hcl pp.1 (by simp [adr])
        exact ⟨this.1, this.2.1⟩
      | _ => rw [hcl] at e1; cases e1
theorem cps {P : Prop} (h : ∀ G : Prop, (P → G) → G) : P := h P id
theorem it_new {h : Heap} {a : Addr} {T : String} {P : Prop} (fpa : a ∉ fr ∧ a ∉ c.amb) {o : Obj} (ho : h.get? a = some o) (k : (∀ b o', h.get? b = some o' → (h.push { cls := .type T, data := .fields #[.ref a, .int 0 0] }).get? b = some o') → (∀ b ∈ [h.objs.size], h.get? b = none ∧ ∃ o', (h.push { cls := .type T, data := .fields #[.ref a, .int 0 0] }).get? b = some o') → (∀ b ∈ [h.objs.size, a], b ∈ [h.objs.size] ∨ (b ∉ fr ∧ b ∉ c.amb ∧ ∃ o, h.get? b = some o)) → P) : P :=
  k (fun b o' e => Heap.get?_push_of_some _ e) (fun b hb => by obtain rfl := List.mem_singleton.mp hb; exact ⟨fresh, _, Heap.get?_push_size _ rfl⟩) fun b hb => by
    rcases List.mem_cons.mp hb with rfl | hb
    · exact .inl List.mem_cons_self
    · obtain rfl := List.mem_singleton.mp hb
      exact .inr ⟨fpa.1, fpa.2, o, ho⟩
set_option tactic.hygienic true in
theorem comp_use {elt x y : X} {ifs : XL} {tg : Tg} {sk : SK} {p pos : Pos} (Hx : SoundX n lf Fo x) (Hy : SoundX n lf Fo y) (He : SoundX n lf Fo elt) (Hi : SoundTC n lf Fo ifs) (C : Cok n lf c) (I : Inv c fr tb env vs αs σ s.heap) (G : Gk sc env)
    (ok : okX c.T sc tb (.comp elt tg sk x y ifs tb' sc' p) = true) (hn : ev c.T Fo vs (.comp elt tg sk x y ifs tb' sc' p) σ ≠ .stuck) {use : Option (Value → Sem Unit)} {Q : Value → Shared → Prop} {E : Value → Shared → Prop}
    (hq : ∀ rs σ', ev c.T Fo vs (.comp elt tg sk x y ifs tb' sc' p) σ = .ok (.d (.list rs)) σ' → ∀ C D αs' h' tk ws m mm, Inv c (fr ++ [C]) tb env vs αs' σ' h' → (∀ αs'' σ'' h'', Nx c (fr ++ [C]) αs' σ' h' αs'' σ'' h'' → Nx c fr αs σ s.heap αs'' σ'' h'') → C ∉ fr → NotOwn env C → C ∉ c.frs.filterMap (·.frame) → h'.Ns C mm → h'.get? D = some { cls := .type "list", data := .seq ws m } → D ∉ Wl c (fr ++ [C]) αs' σ' → NotOwn env D →
      RdA (Fz (Wl c (fr ++ [C]) αs' σ') h') ws.toList rs → compPost (model c.prog c.w) c.A E use Q (.ref D) C (.ok .next) { s with heap := h', toks := tk })
    (hx : HX c lf fr αs σ s (ev c.T Fo vs (.comp elt tg sk x y ifs tb' sc' p) σ) E) :
    wpAny (model c.prog c.w) c.A (comprehension (xE c.T tb (.comp elt tg sk x y ifs tb' sc' p)) sc' env pos (newList []) false (eval (skE c.T sk (xE c.T tb x) (xE c.T tb y)) env) use) Q E s := by
  simp only [q_okX_19, Bool.and_eq_true, List.all_eq_true, decide_eq_true_eq] at ok
  obtain ⟨⟨⟨⟨⟨⟨⟨⟨⟨ox, oy⟩, osk⟩, opr⟩, oT⟩, ond⟩, oe⟩, oi⟩, ot1⟩, ot2⟩ := ok
  have T := okTb_of oT
  have hev : ev c.T Fo vs (.comp elt tg sk x y ifs tb' sc' p) σ = (srcOf (elt.isVar && ifs.isNil) sk (fun σ => ev c.T Fo vs x σ) (fun σ => ev c.T Fo vs y σ) σ).bind fun ds σ => (turns (turnF c.T Fo elt ifs) tg vs ds σ).bind fun ys σ => .ok (.d (.list ys)) σ := by
    simp only [q_ev_18]; rfl
  rw [hev] at hn hx
  have htg : ∀ (i : Nat) (nm : Str), tb'[i]? = some (nm, 1) → i ∈ tgSlots tg := fun i nm e => by
    have hi : i < tb'.length := (List.getElem?_eq_some_iff.mp e).1
    have := ot2 i (List.mem_range.mpr hi)
    rw [e] at this
    simpa using this
  have htg2 : ∀ i ∈ tgSlots tg, ∃ nm, tb'[i]? = some (nm, 1) := fun i hi => by
    have := ot1 i hi
    rw [Option.map_eq_some_iff] at this
    obtain ⟨⟨nm, k⟩, e1, e2⟩ := this
    exact ⟨nm, by rw [e1]; simp only at e2; rw [e2]⟩
  obtain ⟨cl, hclos, hcl1, hcl2⟩ := closure_ok (sc := sc') (env := env) (fun q hq e => by
    obtain ⟨i, hi⟩ := T.free q hq e
    obtain ⟨a, ov, e1, _⟩ := I.fv.cel i q.1 hi
    exact ⟨a, e1⟩)
  have hturn : ∀ {vs : Vs} {ds : List PyData} {σ : Sg}, (turns (turnF c.T Fo elt ifs) tg vs ds σ).bind (fun ys σ => Out.ok (V.d (.list ys)) σ) ≠ .stuck → turns (turnF c.T Fo elt ifs) tg vs ds σ ≠ .stuck := fun h e => h (by rw [e]; rfl)
  refine wpAny_comprehension_free (e := xE c.T tb (.comp elt tg sk x y ifs tb' sc' p)) (g := ⟨tgE tb' tg, skE c.T sk (xE c.T tb x) (xE c.T tb y), xlE c.T tb' ifs, 0⟩) (gs := []) (by simp only [q_xE_19]; rfl) (no_fold ox) hclos T.kind T.loc ?_
  simp only [q_xE_19]
  -- what follows upon the source
  have block : ∀ (zf : Heap) (ds : List PyData) σ₁ αs₁ h₁ h' tk Ia wr fp S, ev c.T Fo vs (.comp elt tg sk x y ifs tb' sc' p) σ = (turns (turnF c.T Fo elt ifs) tg vs ds σ₁).bind (fun ys σ => .ok (.d (.list ys)) σ) → Inv c fr tb env vs αs₁ σ₁ h₁ → Nx c fr αs σ s.heap αs₁ σ₁ h₁ → (∀ b o, h₁.get? b = some o → h'.get? b = some o) → (∀ b ∈ wr, h₁.get? b = none ∧ ∃ o, h'.get? b = some o) →
      (∀ b ∈ fp, b ∈ wr ∨ (b ∉ fr ∧ b ∉ c.amb ∧ ∃ o, h₁.get? b = some o)) → (∀ b o, zf.get? b = some o → (Fz (Wl c fr αs₁ σ₁) h₁).get? b = some o) → S 0 h' → ItS c.prog c.w c.A tb' tg Ia wr fp ds zf S → ds.length ≤ 100000 →
      (∀ (fr₂ : List Addr) (cenv : Env), (∀ b ∈ fr₂, b ∉ c.frs.filterMap (·.frame)) → (∀ b ∈ wr, b ∈ fr₂) → Gk sc' cenv → TurnOK (c.deep fr) lf fr₂ tb' cenv fp zf (turnF c.T Fo elt ifs) (xlE c.T tb' ifs) (xE c.T tb' elt)) →
      wpAny (model c.prog c.w) c.A (newList []) (fun acc s₃ => wpAny (model c.prog c.w) c.A (newFunctionEnv sc' env.globals cl [] env.qual none .none (some env)) (fun cenv s₄ =>
        codeAny (model c.prog c.w) c.A (.compStart (.ListComp (xE c.T tb' elt) [⟨tgE tb' tg, skE c.T sk (xE c.T tb x) (xE c.T tb y), xlE c.T tb' ifs, 0⟩] sc' p) 0 (.ref Ia) acc { cenv with scope := relabel sc' env }) (compPost (model c.prog c.w) c.A E use Q acc cenv.locals) s₄) E s₃) E { s with heap := h', toks := tk } := by
    intro zf ds σ₁ αs₁ h₁ h' tk Ia wr fp S hr I₁ N₁ kp hw hfp hzf hS W hlen hT
    rw [hev] at hr
    refine comp_block (s := { s with heap := h', toks := tk }) C I₁ kp hw T ond ⟨hcl1, hcl2⟩ htg htg2 W hS hfp hzf hlen hT rfl (hturn (by rw [← hr]; exact hn)) (fun rs σ' er Cc D αs' h₂ tk₂ ws m mm I₂ N₂ hC hCf hno hnf hns hD hDW hnoD hR => ?_) (fun ex nt e h₂ tk₂ X => ?_)
    · exact hq rs σ' (by rw [hev, hr, er]; rfl) Cc D αs' h₂ tk₂ ws m mm I₂ (fun αs'' σ'' h'' N => N₁.trans (nx_over N₂ hC N)) hCf hno hnf hns hD hDW hnoD hR
    · exact hx (by rw [hr, ex]; rfl) nt e h₂ tk₂ (X.before N₁)
  refine cps fun G₀ hG => ?_
  rcases srcOf_keep (elt.isVar && ifs.isNil) sk with hb | ⟨hvar, hsk⟩
  · refine hG (src_all (tb' := tb') (tg := tg) Hx Hy C I G ox oy osk opr (hev.trans (by rw [hb])) (by rw [hev]; exact hn) (by rw [hev]; exact hx) (fun ds σ₁ αs₁ h₁ h' tk Ia wr fp S hr I₁ N₁ kp hw hI hfp hS W hlen hx₁ => ?_))
    refine block _ ds σ₁ αs₁ h₁ h' tk Ia wr fp S hr I₁ N₁ kp hw (fun b hb => (hfp b hb).imp id fun ⟨o, e⟩ => ?_) (fun b o e => e) hS W hlen (fun fr₂ cenv hnf hwr G' => turn_gen He Hi (C.amb _) G' oe oi hnf fun b hb => (hfp b hb).imp (hwr b) id)
    obtain ⟨e1, e2⟩ := fz_iff.mp e
    exact ⟨fun q => e2 (mem_Wl.mpr (.inl q)), fun q => e2 (mem_Wl.mpr (.inr (.inl q))), o, e1⟩
  · -- a mere name of a list that stays live
    have hv := Bool.and_eq_true_iff.mp hvar
    obtain ⟨i, pv, rfl⟩ := isVar_inv hv.1
    obtain rfl := isNil_inv hv.2
    subst hsk
    have hr' : ev c.T Fo vs (.comp (.var i pv) tg .it x y .nil tb' sc' p) σ = (ev c.T Fo vs x σ).bind fun v σ => (itemsOf true v σ).bind fun ds σ => (turns (turnF c.T Fo (.var i pv) .nil) tg vs ds σ).bind fun ys σ => .ok (.d (.list ys)) σ := by
      refine hev.trans ?_
      show ((ev c.T Fo vs x σ).bind _).bind _ = _
      cases ev c.T Fo vs x σ <;> rfl
    refine hG (Hx.run C I G ox hr' (by rw [hev]; exact hn) (by rw [hev]; exact hx) (fun V σ₁ v αs₁ h₁ t₁ hr₁ I₁ N₁ R₁ hx₁ => ?_))
    refine cps fun G₁ hG => ?_
    obtain ⟨ds, x', e1, e2, hz, eq⟩ := itemsOf_inv (by rw [← hr₁, hev]; exact hn)
    replace hr₁ := hr₁.trans eq
    obtain ⟨a, o, ws, m, rfl, ho, hc, hd, g4⟩ := rd_seq I₁ R₁ e1 e2
    have hne : a ≠ h₁.objs.size := Nat.ne_of_lt (Heap.lt_size ho)
    have apt := seq_apart I₁ R₁ e1 e2
    rcases hc with ⟨rfl, hc⟩ | ⟨rfl, hc⟩
    · have hL : h₁.IsList a ws := ⟨o, ho, hc, m, hd⟩
      exact hG (wpAny_pyIter_list (s := { s with heap := h₁, toks := t₁ }) hL (it_new apt ho fun kp wr fp => block (Fz (Wl c fr αs₁ σ₁) h₁) ds σ₁ αs₁ h₁ _ t₁ _ [h₁.objs.size] [h₁.objs.size, a] _ hr₁ I₁ N₁ kp wr fp (fun b o e => e) ⟨⟨_, Heap.get?_push_size _ rfl, rfl, rfl⟩, hL.push _⟩ (its_list C.rm.hd g4 hne (fz_none fresh)) hz (fun fr₂ cenv hnf hwr G' => turn_keep oe)))
    · have hL : h₁.IsTuple a ws := ⟨o, ho, hc, m, hd⟩
      exact hG (wpAny_pyIter_tuple (s := { s with heap := h₁, toks := t₁ }) hL (it_new apt ho fun kp wr fp => block (Fz (Wl c fr αs₁ σ₁) h₁) ds σ₁ αs₁ h₁ _ t₁ _ [h₁.objs.size] [h₁.objs.size, a] _ hr₁ I₁ N₁ kp wr fp (fun b o e => e) ⟨⟨_, Heap.get?_push_size _ rfl, rfl, rfl⟩, hL.elim fun o' e => ⟨o', kp _ _ e.1, e.2⟩⟩ (its_tuple C.rm.hd g4 hne (fz_none fresh)) hz (fun fr₂ cenv hnf hwr G' => turn_keep oe)))
theorem soundP_comp {elt x y : X} {ifs : XL} {tg : Tg} {sk : SK} {p : Pos} (Hx : SoundX n lf Fo x) (Hy : SoundX n lf Fo y) (He : SoundX n lf Fo elt) (Hi : SoundTC n lf Fo ifs) : SoundXP n lf Fo (.comp elt tg sk x y ifs tb' sc' p) := by
  intro c C fr sc tb env vs αs σ s Q E I G ok hn hq hx
  have key := comp_use (use := none) (pos := firstIterPos [⟨tgE tb' tg, skE c.T sk (xE c.T tb x) (xE c.T tb y), xlE c.T tb' ifs, 0⟩] p) (Q := Q) (E := E) Hx Hy He Hi C I G ok hn (fun rs σ' er Cc D αs' h' tk ws m mm I₂ N₂ hCf hno hnf hns hD hDW hnoD hR => ?_) hx
  · simp only [q_xE_19] at key ⊢
    rw [eval_ListComp]
    exact key
  · refine ⟨mm, hns, fun h'' hs'' => ?_⟩
    obtain ⟨I₃, N₃, z₃⟩ := Inv.less (h' := h'') I I₂ hnf hCf hno (fun b o hb e => hs''.extBut b o hb e)
    have hDC : D ≠ Cc := fun q => hDW (mem_Wl.mpr (.inl (List.mem_append.mpr (.inr (by rw [q]; simp)))))
    have hD'' := hs''.extBut D _ hDC hD
    have R₃ := hR.keeps z₃
    have hDz : (Fz (Wl c fr αs' σ') h'').get? D = some { cls := .type "list", data := .seq ws m } := z₃ _ _ (fz_iff.mpr ⟨hD, hDW⟩)
    exact hq _ σ' er _ αs' h'' tk I₃ (N₂ _ _ _ N₃ |> fun N => ⟨N.fz, N.am, N.ext⟩) (rd_list hDz rfl rfl R₃) ⟨D, ws, m, rfl, hD'', rs, rfl, R₃⟩
theorem sound_comp {elt x y : X} {ifs : XL} {tg : Tg} {sk : SK} {p : Pos} (Hx : SoundX n lf Fo x) (Hy : SoundX n lf Fo y) (He : SoundX n lf Fo elt) (Hi : SoundTC n lf Fo ifs) : SoundX n lf Fo (.comp elt tg sk x y ifs tb' sc' p) := by
  intro c C fr sc tb env vs αs σ s Q E I G ok hn hq hx
  exact soundP_comp Hx Hy He Hi c C fr sc tb env vs αs σ s Q E I G ok hn (fun V σ' e v αs' h' tk I' N R _ => hq V σ' e v αs' h' tk I' N R) hx
end
section
variable {n : Nat} {lf : Addr} {Fo : Orc}
theorem sound_stuck {x : X} (h : ∀ (T : Tab) (vs : Vs) (σ : Sg), ev T Fo vs x σ = .stuck) : SoundX n lf Fo x := by
  intro c C fr sc tb env vs αs σ s Q E I G ok hn hq hx
  exact absurd (h _ _ _) hn
theorem truth_stuck {x : X} (h : ∀ (T : Tab) (vs : Vs) (σ : Sg), ev T Fo vs x σ = .stuck) : SoundT n lf Fo x := by
  intro c C fr sc tb env vs αs σ s Q E I G ok hn hq hx
  exact absurd (h _ _ _) hn
mutual
theorem sX (O : OrcOK n lf Fo) : ∀ x : X, SoundX n lf Fo x
  | .cst k m p => sound_cst k m p
  | .var i p => sound_var i p
  | .glb g p => sound_glb g p
  | .tup xs k p => sound_tup (sD O xs) k p
  | .lst xs p => sound_lst (sD O xs) p
  | .dsp ks xs p => sound_dsp (sK O xs) p
  | .call g pn xs p => sound_call O (sA O xs) g pn p
  | .bcall b g pn x p => sound_bcall (sX O x) (sXP O x) g pn p
  | .meth e a pa xs p => sound_meth O (sX O e) (sA O xs) a pa p
  | .attr e a p => sound_attr (sX O e) a p
  | .sub e i p => sound_sub (sX O e) (sX O i) p
  | .slc e lo hi ps p => sound_slc (sX O e) (sI O lo) (sI O hi) ps p
  | .cmp op a b p => sound_cmp (sX O a) (sX O b) p
  | .chn a ops xs p => sound_stuck fun _ _ _ => by simp only [q_ev_19]
  | .bop op xs p => sound_bop (sB O op xs) p
  | .bnot e p => sound_not (sX O e) p
  | .ife t a b p => sound_ife (sT O t) (sX O a) (sX O b) p
  | .bin op a b p => sound_bin (sX O a) (sX O b) p
  | .neg e p => sound_neg (sX O e) p
  | .comp elt tg sk x y ifs tb sc p => sound_comp (sX O x) (sX O y) (sX O elt) (sTC O ifs)
  | .dead e => sound_stuck fun _ _ _ => by simp only [q_ev_20]
theorem sXP (O : OrcOK n lf Fo) : ∀ x : X, isComp x = true → SoundXP n lf Fo x
  | .comp elt tg sk x y ifs tb sc p => fun _ => soundP_comp (sX O x) (sX O y) (sX O elt) (sTC O ifs)
  | .cst .. => fun h => by simp [isComp] at h
  | .var .. => fun h => by simp [isComp] at h
  | .glb .. => fun h => by simp [isComp] at h
  | .tup .. => fun h => by simp [isComp] at h
  | .lst .. => fun h => by simp [isComp] at h
  | .dsp .. => fun h => by simp [isComp] at h
  | .call .. => fun h => by simp [isComp] at h
  | .bcall .. => fun h => by simp [isComp] at h
  | .meth .. => fun h => by simp [isComp] at h
  | .attr .. => fun h => by simp [isComp] at h
  | .sub .. => fun h => by simp [isComp] at h
  | .slc .. => fun h => by simp [isComp] at h
  | .cmp .. => fun h => by simp [isComp] at h
  | .chn .. => fun h => by simp [isComp] at h
  | .bop .. => fun h => by simp [isComp] at h
  | .bnot .. => fun h => by simp [isComp] at h
  | .ife .. => fun h => by simp [isComp] at h
  | .bin .. => fun h => by simp [isComp] at h
  | .neg .. => fun h => by simp [isComp] at h
  | .dead .. => fun h => by simp [isComp] at h
theorem sT (O : OrcOK n lf Fo) : ∀ x : X, SoundT n lf Fo x
  | .cst k m p => truth_plain (sound_cst k m p) (by intros; simp only [q_xE_0]; rfl)
  | .var i p => truth_plain (sound_var i p) (by intros; simp only [q_xE_1]; rfl)
  | .glb g p => truth_plain (sound_glb g p) (by intros; simp only [q_xE_2]; rfl)
  | .tup xs k p => truth_plain (sound_tup (sD O xs) k p) (by intros; simp only [q_xE_3]; rfl)
  | .lst xs p => truth_plain (sound_lst (sD O xs) p) (by intros; simp only [q_xE_4]; rfl)
  | .dsp ks xs p => truth_plain (sound_dsp (sK O xs) p) (by intros; simp only [q_xE_5]; rfl)
  | .call g pn xs p => truth_plain (sound_call O (sA O xs) g pn p) (by intros; simp only [q_xE_6]; rfl)
  | .bcall b g pn x p => truth_plain (sound_bcall (sX O x) (sXP O x) g pn p) (by intros; simp only [q_xE_7]; rfl)
  | .meth e a pa xs p => truth_plain (sound_meth O (sX O e) (sA O xs) a pa p) (by intros; simp only [q_xE_8]; rfl)
  | .attr e a p => truth_plain (sound_attr (sX O e) a p) (by intros; simp only [q_xE_9]; rfl)
  | .sub e i p => truth_plain (sound_sub (sX O e) (sX O i) p) (by intros; simp only [q_xE_10]; rfl)
  | .slc e lo hi ps p => truth_plain (sound_slc (sX O e) (sI O lo) (sI O hi) ps p) (by intros; simp only [q_xE_11]; rfl)
  | .cmp op a b p => truth_cmp (sX O a) (sX O b) p
  | .chn a ops xs p => truth_stuck fun _ _ _ => by simp only [q_ev_19]
  | .bop op xs p => truth_bop (sTB O op xs) p
  | .bnot e p => truth_not (sT O e) p
  | .ife t a b p => truth_ife (sT O t) (sT O a) (sT O b) p
  | .bin op a b p => truth_plain (sound_bin (sX O a) (sX O b) p) (by intros; simp only [q_xE_17]; rfl)
  | .neg e p => truth_plain (sound_neg (sX O e) p) (by intros; simp only [q_xE_18]; rfl)
  | .comp elt tg sk x y ifs tb sc p => truth_plain (sound_comp (sX O x) (sX O y) (sX O elt) (sTC O ifs)) (by intros; simp only [q_xE_19]; rfl)
  | .dead e => truth_stuck fun _ _ _ => by simp only [q_ev_20]
theorem sD (O : OrcOK n lf Fo) : ∀ xs : XL, SoundD n lf Fo xs
  | .nil => sound_D_nil
  | .cons x xs => sound_D_cons (sX O x) (sD O xs)
theorem sA (O : OrcOK n lf Fo) : ∀ xs : XL, SoundA n lf Fo xs
  | .nil => sound_A_nil
  | .cons x xs => sound_A_cons (sX O x) (sA O xs)
theorem sI (O : OrcOK n lf Fo) : ∀ xs : XL, SoundI n lf Fo xs
  | .nil => sound_I_nil
  | .cons x xs => sound_I_cons (sX O x)
theorem sK (O : OrcOK n lf Fo) : ∀ xs : XL, SoundK n lf Fo xs
  | .nil => sound_K_nil
  | .cons x xs => sound_K_cons (sX O x) (sK O xs)
theorem sB (O : OrcOK n lf Fo) (op : BoolOp) : ∀ xs : XL, SoundB n lf Fo op xs
  | .nil => sound_B_nil op
  | .cons x xs => sound_B_cons (sX O x) (sB O op xs)
theorem sTB (O : OrcOK n lf Fo) (op : BoolOp) : ∀ xs : XL, SoundTB n lf Fo op xs
  | .nil => sound_TB_nil op
  | .cons x xs => sound_TB_cons (sT O x) (sTB O op xs)
theorem sTC (O : OrcOK n lf Fo) : ∀ xs : XL, SoundTC n lf Fo xs
  | .nil => sound_TC_nil
  | .cons x xs => sound_TC_cons (sT O x)
end
end
section
variable {n : Nat} {lf : Addr} {Fo : Orc} {c : Cx} {fr fr₂ : List Addr} {sc sc' : Scope} {tb tb' : List (Str × Nat)} {env cenv : Env} {vs : Vs} {αs αs' αs'' : List (Addr × Addr)} {σ σ' σ'' : Sg} {s : Shared} {h h₁ h₂ h₃ h' h'' : Heap}
structure Own (env : Env) (fr : List Addr) : Prop where
  loc : env.locals ∈ fr
  cel : OwnCells env fr
theorem Own.slot (W : Own env fr) {i : Nat} (h : okSlot tb i = true) : SlotOk tb env fr i := by
  unfold okSlot at h
  simp only [Bool.or_eq_true, decide_eq_true_eq, Option.map_eq_some_iff] at h
  rcases h with ⟨⟨nm, k⟩, e, hk⟩ | ⟨⟨nm, k⟩, e, hk⟩
  · simp only at hk; subst hk
    exact .inl ⟨by rw [e, List.getD_eq_getElem?_getD, e]; rfl, W.loc⟩
  · simp only at hk; subst hk
    exact .inr ⟨by rw [e, List.getD_eq_getElem?_getD, e]; rfl, W.cel⟩
structure Rt (c : Cx) (fr : List Addr) (αs : List (Addr × Addr)) (σ : Sg) (h : Heap) : Prop where
  len : αs.length = σ.length
  cell : ∀ (k : Nat) (p : Addr × Addr) (cl : Cell), αs[k]? = some p → σ[k]? = some cl → CellR c h (Fz (Wl c fr αs σ) h) αs p cl
  ap1 : ∀ (j k : Nat) (p q : Addr × Addr) (cl dl : Cell), j ≠ k → αs[j]? = some p → σ[j]? = some cl → αs[k]? = some q → σ[k]? = some dl → ∀ a ∈ adr p cl, ∀ b ∈ adr q dl, a ≠ b
  ap2 : ∀ (k : Nat) (p : Addr × Addr) (cl : Cell), αs[k]? = some p → σ[k]? = some cl → ∀ a ∈ adr p cl, a ∉ fr ∧ a ∉ c.amb ∧ c.b₀.get? a = none
  base : ∀ a o, c.b₀.get? a = some o → h.get? a = some o
  ff : h.FunFrames c.b₀ c.frs
theorem St.rt (S : St c fr αs σ h) : Rt c fr αs σ h := ⟨S.len, S.cell, S.ap1, S.ap2, S.base, S.ff⟩
noncomputable def EndS (c : Cx) (fr : List Addr) (tb : List (Str × Nat)) (env : Env) (αs : List (Addr × Addr)) (σ : Sg) (s : Shared) (fl : Fl) (σ' : Sg) (Q : Flow → Shared → Prop) : Prop := match fl with
  | .next vs' => ∀ αs' h' tk, Inv c fr tb env vs' αs' σ' h' → Nx c fr αs σ s.heap αs' σ' h' → Q .next { s with heap := h', toks := tk }
  | .ret V => ∀ v αs' h' tk, Rt c fr αs' σ' h' → Nx c fr αs σ s.heap αs' σ' h' → VR (Fz (Wl c fr αs' σ') h') αs' v V → Q (.ret v) { s with heap := h', toks := tk }
noncomputable def SoundS (n : Nat) (lf : Addr) (Fo : Orc) (st : S) : Prop :=
  ∀ (c : Cx), Cok n lf c → ∀ (fr : List Addr) (sc : Scope) (tb : List (Str × Nat)) (env : Env) (vs : Vs) (αs : List (Addr × Addr)) (σ : Sg) (s : Shared) (Q : Flow → Shared → Prop) (E : Value → Shared → Prop),
    Inv c fr tb env vs αs σ s.heap → Gk sc env → Own env fr → okS c.T sc tb st = true → exS c.T Fo st vs σ ≠ .stuck →
    (∀ fl σ', exS c.T Fo st vs σ = .ok fl σ' → EndS c fr tb env αs σ s fl σ' Q) → HX c lf fr αs σ s (exS c.T Fo st vs σ) E →
    wpAny (model c.prog c.w) c.A (exec (sE c.T tb st) env) Q E s
noncomputable def SoundL (n : Nat) (lf : Addr) (Fo : Orc) (st : SL) : Prop :=
  ∀ (c : Cx), Cok n lf c → ∀ (fr : List Addr) (sc : Scope) (tb : List (Str × Nat)) (env : Env) (vs : Vs) (αs : List (Addr × Addr)) (σ : Sg) (s : Shared) (Q : Flow → Shared → Prop) (E : Value → Shared → Prop),
    Inv c fr tb env vs αs σ s.heap → Gk sc env → Own env fr → okSL c.T sc tb st = true → exL c.T Fo st vs σ ≠ .stuck →
    (∀ fl σ', exL c.T Fo st vs σ = .ok fl σ' → EndS c fr tb env αs σ s fl σ' Q) → HX c lf fr αs σ s (exL c.T Fo st vs σ) E →
    wpAny (model c.prog c.w) c.A (execs (slSt c.T tb st) env) Q E s
theorem EndS.after {fl : Fl} {Q : Flow → Shared → Prop} {t : Nat} (H : EndS c fr tb env αs σ s fl σ'' Q) (N : Nx c fr αs σ s.heap αs' σ' h) : EndS c fr tb env αs' σ' { s with heap := h, toks := t } fl σ'' Q := by
  cases fl with
  | next vs' => exact fun αs₂ h₂ tk I N₂ => H αs₂ h₂ tk I (N.trans N₂)
  | ret V => exact fun v αs₂ h₂ tk I N₂ R => H v αs₂ h₂ tk I (N.trans N₂) R
theorem sound_L_nil : SoundL n lf Fo .nil := by
  intro c C fr sc tb env vs αs σ s Q E I G W ok hn hq hx
  simp only [q_slSt_0]
  exact wpAny_execs_nil (hq (.next vs) σ (by simp only [q_exL_0]) αs s.heap s.toks I .refl)
theorem sound_L_cons {st : S} {r : SL} (H : SoundS n lf Fo st) (H' : SoundL n lf Fo r) : SoundL n lf Fo (.cons st r) := by
  intro c C fr sc tb env vs αs σ s Q E I G W ok hn hq hx
  simp only [q_okSL_1, Bool.and_eq_true] at ok
  simp only [q_exL_1] at hn hq hx
  simp only [q_slSt_1]
  refine wpAny_execs_cons (H c C fr sc tb env vs αs σ s _ E I G W ok.1 (bind_ok rfl hn) (fun fl σ' e => ?_) (fun e => hx (by rw [e]; rfl)))
  rw [e, ok_bind] at hn hq hx
  cases fl with
  | next vs' =>
    intro αs' h' tk I' N'
    exact H' c C fr sc tb env vs' αs' σ' { s with heap := h', toks := tk } Q E I' G W ok.2 hn (fun fl₂ σ₂ e₂ => (hq fl₂ σ₂ e₂).after N') (HX.after (s := s) hx N' id)
  | ret V =>
    intro v αs' h' tk I' N' R'
    exact hq _ σ' rfl v αs' h' tk I' N' R'
theorem not_inter (I : Inv c fr tb env vs αs σ h) : interactive env = false := by
  unfold interactive
  rw [I.ek.kind]
  rfl
theorem swaps_not {T : Tab} {sc : Scope} {x : X} (ok : okX T sc tb x = true) (hc : isComp x = false) {t : Option PySem.Expr} {l : Nat} : swapsWith (xE T tb x) t l env = pure false := by
  cases x with
  | dead e => simp [q_okX_20] at ok
  | comp => simp [isComp] at hc
  | _ => simp only [q_xE_0, q_xE_1, q_xE_2, q_xE_3, q_xE_4, q_xE_5, q_xE_6, q_xE_7, q_xE_8, q_xE_9, q_xE_10, q_xE_11, q_xE_12, q_xE_13, q_xE_14, q_xE_15, q_xE_16, q_xE_17, q_xE_18]; rfl
theorem sound_xpr {x : X} (H : SoundX n lf Fo x) (p : Pos) : SoundS n lf Fo (.xpr x p) := by
  intro c C fr sc tb env vs αs σ s Q E I G W ok hn hq hx
  simp only [q_okS_5, Bool.and_eq_true, Bool.not_eq_true'] at ok
  simp only [q_exS_5] at hn hq hx
  simp only [q_sE_5]
  refine wpAny_Expr_any (H.run C I G ok.1 rfl hn hx (fun V σ₁ v αs₁ h₁ t₁ hr I₁ N₁ R₁ _ => ?_)) (not_inter I) (swaps_not ok.1 ok.2)
  exact hq _ σ₁ hr αs₁ h₁ t₁ I₁ N₁
theorem sound_iff {t : X} {a b : SL} (Ht : SoundT n lf Fo t) (Ha : SoundL n lf Fo a) (Hb : SoundL n lf Fo b) (p : Pos) : SoundS n lf Fo (.iff t a b p) := by
  intro c C fr sc tb env vs αs σ s Q E I G W ok hn hq hx
  simp only [q_okS_6, Bool.and_eq_true] at ok
  simp only [q_exS_6] at hn hq hx
  simp only [q_sE_6]
  refine wpAny_If (Ht.run C I G ok.1.1 rfl hn (fun V σ h => ?_) hx (fun b σ₁ αs₁ h₁ t₁ hr I₁ N₁ hx₁ => ?_))
  · split at h
    · exact ⟨_, rfl⟩
    · exact ⟨_, rfl⟩
    · exact absurd rfl h
  · rw [hr] at hn hq hx₁
    cases b with
    | true =>
      simp only [if_true]
      exact Ha c C fr sc tb env vs αs₁ σ₁ _ Q E I₁ G W ok.1.2 hn (fun fl σ' e => (hq fl σ' e).after N₁) hx₁
    | false =>
      simp only [Bool.false_eq_true, if_false]
      exact Hb c C fr sc tb env vs αs₁ σ₁ _ Q E I₁ G W ok.2 hn (fun fl σ' e => (hq fl σ' e).after N₁) hx₁
theorem sound_ret {x : X} (H : SoundX n lf Fo x) (p : Pos) : SoundS n lf Fo (.ret x p) := by
  intro c C fr sc tb env vs αs σ s Q E I G W ok hn hq hx
  simp only [q_okS_9] at ok
  simp only [q_exS_9] at hn hq hx
  simp only [q_sE_9]
  refine wpAny_Return_some (H.run C I G ok rfl hn hx (fun V σ₁ v αs₁ h₁ t₁ hr I₁ N₁ R₁ _ => ?_))
  rw [hr] at hn hq
  cases he : arg V σ₁ with
  | stuck => rw [he] at hn; exact absurd rfl hn
  | ex => exact absurd he arg_ne
  | ok U σ₂ =>
    rw [he, ok_bind] at hq
    obtain ⟨I₂, N₂, R₂⟩ := arg_ok I₁ R₁ he
    exact hq _ σ₂ rfl v αs₁ h₁ t₁ I₂.st.rt (N₁.trans N₂) R₂
noncomputable def SoundN (n : Nat) (lf : Addr) (Fo : Orc) (x : X) : Prop :=
  ∀ (c : Cx), Cok n lf c → ∀ (fr : List Addr) (sc : Scope) (tb : List (Str × Nat)) (env : Env) (vs : Vs) (αs : List (Addr × Addr)) (σ : Sg) (s : Shared) (Q : Value → Shared → Prop) (E : Value → Shared → Prop),
    Inv c fr tb env vs αs σ s.heap → Gk sc env → okX c.T sc tb x = true → evN c.T Fo vs x σ ≠ .stuck →
    (∀ V σ', evN c.T Fo vs x σ = .ok V σ' → ∀ v αs' h' tk, Inv c fr tb env vs αs' σ' h' → Nx c fr αs σ s.heap αs' σ' h' → VR (Fz (Wl c fr αs' σ') h') αs' v V → Q v { s with heap := h', toks := tk }) →
    HX c lf fr αs σ s (evN c.T Fo vs x σ) E →
    wpAny (model c.prog c.w) c.A (eval (xE c.T tb x) env) Q E s
theorem SoundN.run {x : X} (H : SoundN n lf Fo x) (C : Cok n lf c) (I : Inv c fr tb env vs αs σ s.heap) (G : Gk sc env) (ok : okX c.T sc tb x = true) {β : Type} {r : Out β} {f : V → Sg → Out β} (hr : r = (evN c.T Fo vs x σ).bind f) (hn : r ≠ .stuck)
    {Q : Value → Shared → Prop} {E : Value → Shared → Prop} (hx : HX c lf fr αs σ s r E)
    (hq : ∀ a σ₁ v αs₁ h₁ t₁, r = f a σ₁ → Inv c fr tb env vs αs₁ σ₁ h₁ → Nx c fr αs σ s.heap αs₁ σ₁ h₁ → VR (Fz (Wl c fr αs₁ σ₁) h₁) αs₁ v a → HX c lf fr αs₁ σ₁ { s with heap := h₁, toks := t₁ } r E → Q v { s with heap := h₁, toks := t₁ }) :
    wpAny (model c.prog c.w) c.A (eval (xE c.T tb x) env) Q E s := by
  refine H c C fr sc tb env vs αs σ s Q E I G ok (bind_ok hr hn) (fun V σ' e v αs' h' tk I' N R => ?_) (fun e => ?_)
  · rw [e] at hr
    exact hq V σ' v αs' h' tk hr I' N R (hx.after N id)
  · exact hx (by rw [hr, e]; rfl)
theorem new_list (I : Inv c fr tb env vs αs σ h) {us : Array Value} {ds : List PyData} {m : Nat} (R : RdA (Fz (Wl c fr αs σ) h) us.toList ds) :
    Inv c fr tb env vs (αs ++ [(h.objs.size, h.objs.size)]) (σ ++ [.lst false ds]) (h.push { cls := .type "list", data := .seq us m }) ∧ Nx c fr αs σ h (αs ++ [(h.objs.size, h.objs.size)]) (σ ++ [.lst false ds]) (h.push { cls := .type "list", data := .seq us m }) ∧
    VR (Fz (Wl c fr (αs ++ [(h.objs.size, h.objs.size)]) (σ ++ [.lst false ds])) (h.push { cls := .type "list", data := .seq us m })) (αs ++ [(h.objs.size, h.objs.size)]) (.ref h.objs.size) (.o σ.length) := by
  have k : ∀ b o, h.get? b = some o → (h.push { cls := .type "list", data := .seq us m }).get? b = some o := fun b o e => Heap.get?_push_of_some _ e
  have hA : ∀ a ∈ adr (h.objs.size, h.objs.size) (.lst false ds), h.get? a = none := by intro a ha; simp [adr] at ha; subst ha; exact fresh
  have hap := I.st.apart (s := { heap := h }) fresh
  refine ⟨I.new (p := (h.objs.size, h.objs.size)) hA (by intro a ha; simp [adr] at ha; subst ha; exact hap) k (fun kz => ⟨us, ⟨m, Heap.get?_push_size _ rfl⟩, R.keeps kz⟩), St.new_nx I.st.len hA k, (h.objs.size, h.objs.size), ?_, rfl⟩
  rw [← I.st.len, List.getElem?_append_right (Nat.le_refl _), Nat.sub_self]; rfl
theorem soundN_lst {xs : XL} (H : SoundD n lf Fo xs) (p : Pos) : SoundN n lf Fo (.lst xs p) := by
  intro c C fr sc tb env vs αs σ s Q E I G ok hn hq hx
  simp only [q_okX_4, Bool.and_eq_true, decide_eq_true_eq] at ok
  have hev : evN c.T Fo vs (.lst xs p) σ = (evD c.T Fo vs xs σ).bind fun ds σ => .ok (.o σ.length) (σ ++ [.lst false ds]) := rfl
  rw [hev] at hn hq hx
  simp only [q_xE_4]
  refine wpAny_List (H c C fr sc tb env vs αs σ s p _ E I G ok.1 (bind_ok rfl hn) (fun ds σ' e us αs' h' tk I' N R hl => ⟨len_le hl ok.2, ?_⟩) (fun e => hx (by rw [e]; rfl)))
  rw [e] at hq
  obtain ⟨I₂, N₂, R₂⟩ := new_list (us := us.toArray) (m := 0) I' (by simpa using R)
  exact hq _ _ rfl _ _ _ _ I₂ (N.trans N₂) R₂
set_option tactic.hygienic true in
theorem soundN_add {x y : X} (H : SoundX n lf Fo x) (H' : SoundX n lf Fo y) (p : Pos) : SoundN n lf Fo (.bin .Add x y p) := by
  intro c C fr sc tb env vs αs σ s Q E I G ok hn hq hx
  simp only [q_okX_17, Bool.and_eq_true] at ok
  have hev : evN c.T Fo vs (.bin .Add x y p) σ = (ev c.T Fo vs x σ).bind fun v σ => (ev c.T Fo vs y σ).bind fun w σ => (lift σ ((rd σ v).bind fun x => (rd σ w).bind fun y => binop .Add x y)).bind fun v σ => match v with
      | .d (.list ds) => Out.ok (.o σ.length) (σ ++ [.lst false ds])
      | _ => .stuck := by
    show ((ev c.T Fo vs x σ).bind _).bind _ = _
    cases ev c.T Fo vs x σ with
    | ok v σ₁ =>
      show ((ev c.T Fo vs y σ₁).bind _).bind _ = (ev c.T Fo vs y σ₁).bind _
      cases ev c.T Fo vs y σ₁ <;> rfl
    | _ => rfl
  rw [hev] at hn hq hx
  simp only [q_xE_17]
  refine wpAny_BinOp (bin_core H H' C I G ok.1 ok.2 (binaryOp .Add) rfl hn hx (fun V W σ₁ v w αs₁ h₁ t₁ hr I₁ N₁ R₁ R₂ _ => ?_))
  rw [hr] at hn hq
  obtain ⟨z, hz⟩ := lift_ne (bind_ok rfl hn)
  rw [hz] at hn hq
  simp only [lift, ok_bind] at hn hq
  rw [Option.bind_eq_some_iff] at hz
  obtain ⟨x', e1, hz⟩ := hz
  rw [Option.bind_eq_some_iff] at hz
  obtain ⟨y', e2, hz⟩ := hz
  have hzl : ∃ ds, z = .list ds := by
    cases z with
    | list ds => exact ⟨ds, rfl⟩
    | _ => exact absurd rfl hn
  obtain ⟨ds, rfl⟩ := hzl
  simp only at hq
  obtain ⟨a, b, rfl, rfl, rfl, hsz⟩ := addL_inv hz
  obtain ⟨ws, r, g⟩ := addL_core (s := { s with heap := h₁, toks := t₁ }) I₁ R₁ R₂ e1 e2 hsz
  refine g _ _ ?_
  obtain ⟨I₂, N₂, R₃⟩ := new_list (us := ws) (m := 0) (ds := a ++ b) I₁ r
  exact hq _ _ rfl _ _ _ _ I₂ (N₁.trans N₂) R₃
theorem soundN_plain {x : X} (H : SoundX n lf Fo x) (he : ∀ (T : Tab) (vs : Vs) (σ : Sg), evN T Fo vs x σ = ev T Fo vs x σ) : SoundN n lf Fo x := by
  intro c C fr sc tb env vs αs σ s Q E I G ok hn hq hx
  rw [he] at hn hq hx
  exact H c C fr sc tb env vs αs σ s Q E I G ok hn hq hx
theorem sN (O : OrcOK n lf Fo) (x : X) : SoundN n lf Fo x := by
  cases x with
  | lst xs p => exact soundN_lst (sD O xs) p
  | bin op a b p =>
    cases op with
    | Add => exact soundN_add (sX O a) (sX O b) p
    | _ => exact soundN_plain (sX O _) fun _ _ _ => rfl
  | _ => exact soundN_plain (sX O _) fun _ _ _ => rfl
end
section
variable {n : Nat} {lf : Addr} {Fo : Orc} {c : Cx} {fr fr₂ : List Addr} {sc sc' : Scope} {tb tb' : List (Str × Nat)} {env cenv : Env} {vs : Vs} {αs αs' αs'' : List (Addr × Addr)} {σ σ' σ'' : Sg} {s : Shared} {h h₁ h₂ h₃ h' h'' : Heap}
theorem slot_lt {i : Nat} {vs : Vs} {V : V} {σ : Sg} (h : (if i < vs.length then Out.ok (Fl.next (putV vs i V)) σ else .stuck) ≠ .stuck) : i < vs.length := by
  by_cases hi : i < vs.length
  · exact hi
  · rw [if_neg hi] at h; exact absurd rfl h
theorem sound_asg_plain {x : X} {live : Bool} (H : SoundX n lf Fo x) (HN : SoundN n lf Fo x) (hc : isComp x = false) (i : Nat) (pi p : Pos) : SoundS n lf Fo (.asg i live pi x p) := by
  intro c C fr sc tb env vs αs σ s Q E I G W ok hn hq hx
  simp only [q_okS_0, Bool.and_eq_true] at ok
  simp only [q_exS_0] at hn hq hx
  simp only [q_sE_0]
  refine wpAny_Assign_Name ?_ (swaps_not ok.1 hc)
  have fin : ∀ a σ₁ v αs₁ h₁ t₁, (if i < vs.length then Out.ok (Fl.next (putV vs i a)) σ₁ else .stuck) ≠ .stuck → (∀ fl σ', (if i < vs.length then Out.ok (Fl.next (putV vs i a)) σ₁ else .stuck) = .ok fl σ' → EndS c fr tb env αs σ s fl σ' Q) → Inv c fr tb env vs αs₁ σ₁ h₁ → Nx c fr αs σ s.heap αs₁ σ₁ h₁ → VR (Fz (Wl c fr αs₁ σ₁) h₁) αs₁ v a →
      wpAny (model c.prog c.w) c.A (storeName env (tb.getD i default).1 v) (fun _ => Q .next) E { s with heap := h₁, toks := t₁ } := by
    intro a σ₁ v αs₁ h₁ t₁ hn hq I₁ N₁ R₁
    have hi := slot_lt hn
    simp only [if_pos hi] at hq
    exact store_var (s := { s with heap := h₁, toks := t₁ }) I₁ (W.slot ok.2) R₁ fun h' tk I' N' _ => hq _ _ rfl αs₁ h' tk I' (N₁.trans N')
  cases live with
  | true =>
    simp only [if_true] at hn hq hx
    exact HN.run C I G ok.1 rfl hn hx fun a σ₁ v αs₁ h₁ t₁ hr I₁ N₁ R₁ _ => fin a σ₁ v αs₁ h₁ t₁ (hr ▸ hn) (by rw [← hr]; exact hq) I₁ N₁ R₁
  | false =>
    simp only [Bool.false_eq_true, if_false] at hn hq hx
    exact H.run C I G ok.1 rfl hn hx fun a σ₁ v αs₁ h₁ t₁ hr I₁ N₁ R₁ _ => fin a σ₁ v αs₁ h₁ t₁ (hr ▸ hn) (by rw [← hr]; exact hq) I₁ N₁ R₁
theorem evN_comp {T : Tab} {elt x y : X} {ifs : XL} {tg : Tg} {sk : SK} {q : Pos} : evN T Fo vs (.comp elt tg sk x y ifs tb' sc' q) σ = ev T Fo vs (.comp elt tg sk x y ifs tb' sc' q) σ := rfl
theorem ev_comp_list {T : Tab} {elt x y : X} {ifs : XL} {tg : Tg} {sk : SK} {q : Pos} {V : V} (e : ev T Fo vs (.comp elt tg sk x y ifs tb' sc' q) σ = .ok V σ') : ∃ ds, V = .d (.list ds) := by
  simp only [q_ev_18] at e
  cases h1 : srcOf (elt.isVar && ifs.isNil) sk (fun σ => ev T Fo vs x σ) (fun σ => ev T Fo vs y σ) σ with
  | stuck => rw [h1] at e; cases e
  | ex => rw [h1] at e; cases e
  | ok ds σ₁ =>
    rw [h1, ok_bind] at e
    generalize h2 : turns _ tg vs ds σ₁ = r at e
    cases r with
    | stuck => cases e
    | ex => cases e
    | ok ys σ₂ => cases e; exact ⟨_, rfl⟩
theorem sound_asg_comp {elt x y : X} {ifs : XL} {tg : Tg} {sk : SK} {q : Pos} {live : Bool} (Hx : SoundX n lf Fo x) (Hy : SoundX n lf Fo y) (He : SoundX n lf Fo elt) (Hi : SoundTC n lf Fo ifs) (i : Nat) (pi p : Pos) : SoundS n lf Fo (.asg i live pi (.comp elt tg sk x y ifs tb' sc' q) p) := by
  intro c C fr sc tb env vs αs σ s Q E I G W ok hn hq hx
  simp only [q_okS_0, Bool.and_eq_true] at ok
  have hev : exS c.T Fo (.asg i live pi (.comp elt tg sk x y ifs tb' sc' q) p) vs σ = (ev c.T Fo vs (.comp elt tg sk x y ifs tb' sc' q) σ).bind fun v σ => if i < vs.length then .ok (.next (putV vs i v)) σ else .stuck := by
    simp only [q_exS_0, evN_comp]
    cases live <;> rfl
  rw [hev] at hn hq hx
  simp only [q_sE_0]
  obtain ⟨b, hb⟩ : ∃ b, swapsWith (xE c.T tb (.comp elt tg sk x y ifs tb' sc' q)) (some (.Name (tb.getD i default).1 pi)) p.line env = pure b := ⟨_, by simp only [q_xE_19]; rfl⟩
  have lt : ∀ {ds σ'}, ev c.T Fo vs (.comp elt tg sk x y ifs tb' sc' q) σ = .ok (.d (.list ds)) σ' → i < vs.length := fun e => by
    rw [e, ok_bind] at hn; exact slot_lt hn
  cases b with
  | false =>
    refine wpAny_Assign_Name ?_ hb
    refine (sound_comp Hx Hy He Hi).run C I G ok.1 rfl hn hx (fun a σ₁ v αs₁ h₁ t₁ hr I₁ N₁ R₁ _ => ?_)
    rw [hr] at hn hq
    have hi := slot_lt hn
    simp only [if_pos hi] at hq
    exact store_var (s := { s with heap := h₁, toks := t₁ }) I₁ (W.slot ok.2) R₁ fun h' tk I' N' _ => hq _ _ rfl αs₁ h' tk I' (N₁.trans N')
  | true =>
    rw [exec_Assign_Name_used _ _ _ _ hb]
    refine wpAny_bind (wpAny_standAt (wpAny_bind ?_))
    have key := comp_use (use := some (assign (.Name (tb.getD i default).1 pi) env)) (pos := firstIterPos [⟨tgE tb' tg, skE c.T sk (xE c.T tb x) (xE c.T tb y), xlE c.T tb' ifs, 0⟩] q) (Q := fun _ s' => Q .next s') (E := E) Hx Hy He Hi C I G ok.1 (bind_ok rfl hn) (fun rs σ' er Cc D αs' h' tk ws m mm I₂ N₂ hCf hno hnf hns hD hDW hnoD hR => ?_) (fun e => hx (by rw [e]; rfl))
    · simp only [q_xE_19] at key ⊢
      show wpAny _ c.A (do let _ ← comprehension _ sc' env _ (newList []) false _ (some (assign (.Name (tb.getD i default).1 pi) env))) _ _ s
      exact wpAny_bind (wpAny_mono key (fun _ s' hq => wpAny_pure (wpAny_pure hq)) fun _ _ e => e)
    · have hi := lt er
      rw [er, ok_bind, if_pos hi] at hq
      have hs : SlotOk tb env (fr ++ [Cc]) i := by
        rcases W.slot ok.2 with ⟨a, b⟩ | ⟨a, b⟩
        · exact .inl ⟨a, List.mem_append.mpr (.inl b)⟩
        · exact .inr ⟨a, fun nm x e => List.mem_append.mpr (.inl (b nm x e))⟩
      refine assign_var (s := { s with heap := h', toks := tk }) I₂ hs (V := .d (.list rs)) (rd_list (fz_iff.mpr ⟨hD, hDW⟩) rfl rfl hR) fun h'' tk₂ I₃ N₃ k₃ => ⟨mm, hns.at' fun o e => k₃ Cc o hno e, fun h₄ hs₄ => ?_⟩
      obtain ⟨I₄, N₄, z₄⟩ := Inv.less (h' := h₄) I I₃ hnf hCf hno (fun b o hb e => hs₄.extBut b o hb e)
      exact hq _ _ rfl αs' h₄ tk₂ I₄ (N₂ _ _ _ (N₃.trans N₄))
theorem sound_unp {x : X} (H : SoundX n lf Fo x) (is : List (Nat × Pos)) (k : Nat) (pt p : Pos) : SoundS n lf Fo (.unp is k pt x p) := by
  intro c C fr sc tb env vs αs σ s Q E I G W ok hn hq hx
  simp only [q_okS_2, Bool.and_eq_true, Bool.not_eq_true', List.all_eq_true] at ok
  obtain ⟨⟨ok1, ok2⟩, ok3⟩ := ok
  simp only [q_exS_2] at hn hq hx
  simp only [q_sE_2]
  refine Assign_Tuple (H.run C I G ok1 rfl hn hx (fun V σ₁ v αs₁ h₁ t₁ hr I₁ N₁ R₁ _ => ?_)) ?_ ?_
  · rw [hr] at hn hq
    cases V with
    | o k => exact absurd rfl hn
    | d y =>
      cases y with
      | tuple ds =>
        simp only at hn hq
        cases hp : putVs vs is ds with
        | none => rw [hp] at hn; exact absurd rfl hn
        | some vs' =>
          rw [hp] at hq
          obtain ⟨T, o, ws, m, rfl, g1, g2, g3, g4⟩ := Rd.tuple R₁
          exact assign_tup (M := model) (s := { s with heap := h₁, toks := t₁ }) C.rm.hd I₁ (fun q hq' => W.slot (ok3 q hq')) (Inv.z_in _ _ g1) g2 g3 g4 hp fun h' tk I' N' _ => hq _ _ rfl αs₁ h' tk I' (N₁.trans N')
      | _ => exact absurd rfl hn
  · cases x with
    | dead e => simp [q_okX_20] at ok1
    | _ => simp only [q_xE_0, q_xE_1, q_xE_2, q_xE_3, q_xE_4, q_xE_5, q_xE_6, q_xE_7, q_xE_8, q_xE_9, q_xE_10, q_xE_11, q_xE_12, q_xE_13, q_xE_14, q_xE_15, q_xE_16, q_xE_17, q_xE_18, q_xE_19]; rfl
  · cases x with
    | dead e => simp [q_okX_20] at ok1
    | tup => simp [isTup] at ok2
    | _ => simp only [q_xE_0, q_xE_1, q_xE_2, q_xE_4, q_xE_5, q_xE_6, q_xE_7, q_xE_8, q_xE_9, q_xE_10, q_xE_11, q_xE_12, q_xE_13, q_xE_14, q_xE_15, q_xE_16, q_xE_17, q_xE_18, q_xE_19]; rfl
theorem swapped_two {a b : Str} {pa pb pt pv : Pos} {k k' : Nat} {x y : PySem.Expr} (hk : env.scope.kind = .function) (hx : starEach [x] env = [(false, eval x env)]) (hy : starEach [y] env = [(false, eval y env)]) (hc : (constantsAlone 8 x && constantsAlone 8 y) = false) :
    swappedStores [.Tuple [.Name a pa, .Name b pb] k pt] (.Tuple [x, y] k' pv) env = pure none ∨ swappedStores [.Tuple [.Name a pa, .Name b pb] k pt] (.Tuple [x, y] k' pv) env = pure (some [a, b]) := by
  have hb : (env.blockKind != .function) = false := by
    unfold Env.blockKind; rw [hk]; rfl
  unfold swappedStores
  simp only [List.length_cons, List.length_nil, List.any_cons, List.any_nil, hb, List.all_cons, List.all_nil, Bool.and_true, hc, List.filterMap_cons, List.filterMap_nil]
  generalize (env.kindOf a == some NameKind.local && pa.line == (Option.map (fun x => x.pos.line) [PySem.Expr.Name a pa, PySem.Expr.Name b pb].head?).getD 0) = ca
  generalize (env.kindOf b == some NameKind.local && pb.line == (Option.map (fun x => x.pos.line) [PySem.Expr.Name a pa, PySem.Expr.Name b pb].head?).getD 0) = cb
  generalize (foldedForSure 8 x && foldedForSure 8 y) = cf
  cases ca <;> cases cb <;> simp <;> (repeat' split) <;> simp_all
end
section
variable {n : Nat} {lf : Addr} {Fo : Orc} {c : Cx} {fr fr₂ : List Addr} {sc sc' : Scope} {tb tb' : List (Str × Nat)} {env cenv : Env} {vs : Vs} {αs αs' αs'' : List (Addr × Addr)} {σ σ' σ'' : Sg} {s : Shared} {h h₁ h₂ h₃ h' h'' : Heap}
theorem sound_asg2 {x y : X} (H : SoundN n lf Fo x) (H' : SoundN n lf Fo y) (i j : Nat) (pi pj : Pos) (k : Nat) (pt : Pos) (k' : Nat) (pv p : Pos) : SoundS n lf Fo (.asg2 i j pi pj k pt x y k' pv p) := by
  intro c C fr sc tb env vs αs σ s Q E I G W ok hn hq hx
  simp only [q_okS_1, Bool.and_eq_true, Bool.not_eq_true', bne_iff_ne] at ok
  obtain ⟨⟨⟨⟨⟨okx, oky⟩, oki⟩, okj⟩, hij⟩, hca⟩ := ok
  simp only [q_exS_1] at hn hq hx
  simp only [q_sE_1]
  -- the two values, then the tuple
  have vals : ∀ K : Value → Shared → Prop, (∀ a b σ₁ v w αs₁ h₁ t₁ T, i < vs.length → j < vs.length → (∀ fl σ', Out.ok (Fl.next (putV (putV vs i a) j b)) σ₁ = .ok fl σ' → EndS c fr tb env αs σ s fl σ' Q) → Inv c fr tb env vs αs₁ σ₁ h₁ → Nx c fr αs σ s.heap αs₁ σ₁ h₁ → VR (Fz (Wl c fr αs₁ σ₁) h₁) αs₁ v a → VR (Fz (Wl c fr αs₁ σ₁) h₁) αs₁ w b → IsTup h₁ T #[v, w] →
      K (.ref T) { s with heap := h₁, toks := t₁ }) → wpAny (model c.prog c.w) c.A (eval (.Tuple [xE c.T tb x, xE c.T tb y] k' pv) env) K E s := by
    intro K hK
    refine wpAny_Tuple (wpAny_items_cons ?_ (star_x (ok_not_dead okx)))
    refine H.run C I G okx rfl hn hx (fun a σ₁ v αs₁ h₁ t₁ hr I₁ N₁ R₁ hx₁ => ?_)
    refine wpAny_items_cons ?_ (star_x (ok_not_dead oky))
    refine H'.run (s := { s with heap := h₁, toks := t₁ }) C I₁ G oky hr hn hx₁ (fun b σ₂ w αs₂ h₂ t₂ hr₂ I₂ N₂ R₂ hx₂ => ?_)
    refine wpAny_items_nil ⟨by rw [sizeLine_eq]; simp, ?_⟩
    have hlt : i < vs.length ∧ j < vs.length := by
      rw [hr₂] at hn
      by_cases q : (decide (i < vs.length) && decide (j < vs.length)) = true
      · simpa using q
      · simp only [q] at hn; exact absurd rfl hn
    rw [hr₂] at hq
    simp only [hlt.1, hlt.2, decide_true, Bool.and_self, if_true] at hq
    obtain ⟨I₃, N₃, g⟩ := push_in I₂ (o := { cls := .type "tuple", data := .seq #[v, w] }) rfl
    exact hK a b σ₂ v w αs₂ _ t₂ _ hlt.1 hlt.2 hq I₃ ((N₁.trans N₂).trans N₃) (N₃.vr (N₂.vr R₁)) (N₃.vr R₂) ⟨_, Inv.z_in _ _ g, rfl, _, rfl⟩
  rcases swapped_two (a := (tb.getD i default).1) (b := (tb.getD j default).1) (pa := pi) (pb := pj) (pt := pt) (pv := pv) (k := k) (k' := k') (x := xE c.T tb x) (y := xE c.T tb y) I.ek.kind (star1 (ok_not_dead okx)) (star1 (ok_not_dead oky)) hca with hw | hw
  · refine Assign_Tuple (vals _ fun a b σ₁ v w αs₁ h₁ t₁ T hi hj hq I₁ N₁ R₁ R₂ hT => ?_) rfl hw
    refine wpAny_assign_Tuple (s := { s with heap := h₁, toks := t₁ }) C.rm.hd hT rfl rfl fun h' he => ?_
    have kp : ∀ b o, h₁.get? b = some o → h'.get? b = some o := fun b o e => he b o (Nat.ne_of_lt (Heap.lt_size e)) e
    have N₂ : Nx c fr αs₁ σ₁ h₁ αs₁ σ₁ h' := Nx.keep kp
    refine assignInOrder_cons (assign_var (s := { s with heap := h', toks := t₁ }) (I₁.keep kp) (W.slot oki) (N₂.vr R₁) fun h₂ tk₂ I₃ N₃ _ => ?_)
    refine assignInOrder_cons (assign_var (s := { s with heap := h₂, toks := tk₂ }) I₃ (W.slot okj) (N₃.vr (N₂.vr R₂)) fun h₃ tk₃ I₄ N₄ _ => ?_)
    exact assignInOrder_nil (hq _ _ rfl αs₁ h₃ tk₃ I₄ (((N₁.trans N₂).trans N₃).trans N₄))
  · refine Assign_Tuple_swapped (vals _ fun a b σ₁ v w αs₁ h₁ t₁ T hi hj hq I₁ N₁ R₁ R₂ hT => ?_) rfl hw
    have hlen : ([(tb.getD i default).1, (tb.getD j default).1] : List Str).length = (#[v, w] : Array Value).size := rfl
    rw [hlen]
    refine unpackItems_tuple (s := { s with heap := h₁, toks := t₁ }) C.rm.hd hT fun h' he => ?_
    have kp : ∀ b o, h₁.get? b = some o → h'.get? b = some o := fun b o e => he b o (Nat.ne_of_lt (Heap.lt_size e)) e
    have N₂ : Nx c fr αs₁ σ₁ h₁ αs₁ σ₁ h' := Nx.keep kp
    refine assignInOrder_cons (wpAny_bindName (store_var (s := { s with heap := h', toks := t₁ }) (I₁.keep kp) (W.slot okj) (N₂.vr R₂) fun h₂ tk₂ I₃ N₃ _ => ?_))
    refine assignInOrder_cons (wpAny_bindName (store_var (s := { s with heap := h₂, toks := tk₂ }) I₃ (W.slot oki) (N₃.vr (N₂.vr R₁)) fun h₃ tk₃ I₄ N₄ _ => ?_))
    have e : putV (putV vs j b) i a = putV (putV vs i a) j b := by unfold putV; rw [List.set_comm _ _ (Ne.symm hij)]
    rw [e] at I₄
    exact assignInOrder_nil (hq _ _ rfl αs₁ h₃ tk₃ I₄ (((N₁.trans N₂).trans N₃).trans N₄))
theorem FRel.set {z : Heap} {an : Nat → Str} {a : Nat} {v : Value} {V : V} {hsh : Int} {t : Tok} (hi : ∀ b, an a = an b → a = b) (hv : VR z αs v V) : ∀ {es : List DictEntry} {fs : List (Nat × Mine.V)}, FRel z αs an es fs → FRel z αs an (putL (an a) hsh (.str (an a) t) v es) (setA fs a V)
  | _, _, .nil => .cons rfl hv .nil
  | _, _, .cons (e := e) (t := t') (a := b) (v := u) (es := es) (fs := fs) q r s => by
    have ih := FRel.set (hsh := hsh) (t := t) hi hv s
    unfold putL setA
    by_cases hb : b = a
    · subst hb
      have : e.key.isStr (an b) = true := by rw [q]; simp [Value.isStr]
      rw [if_pos this, if_pos rfl]
      exact .cons q hv s
    · have : e.key.isStr (an a) = false := by
        rw [q]
        simp only [Value.isStr]
        rw [beq_eq_false_iff_ne]
        intro e'
        exact hb (hi b e'.symm).symm
      rw [if_neg (by rw [this]; decide), if_neg hb]
      exact .cons q r ih
theorem FRel.len {z : Heap} {an : Nat → Str} : ∀ {es : List DictEntry} {fs : List (Nat × V)}, FRel z αs an es fs → es.length = fs.length
  | _, _, .nil => rfl
  | _, _, .cons _ _ s => by simp [FRel.len s]
theorem FRel.noRef {z : Heap} {an : Nat → Str} : ∀ {es : List DictEntry} {fs : List (Nat × V)}, FRel z αs an es fs → es.any (·.refKey) = false
  | _, _, .nil => rfl
  | _, _, .cons (e := e) q _ s => by
    rw [List.any_cons, FRel.noRef s, Bool.or_false]
    unfold DictEntry.refKey
    rw [q]
theorem putL_len (name : Str) (hsh : Int) (key v : Value) : ∀ es : List DictEntry, (putL name hsh key v es).length ≤ es.length + 1
  | [] => by simp [putL]
  | e :: r => by
    unfold putL
    split
    · simp
    · simp only [List.length_cons]; have := putL_len name hsh key v r; omega
theorem osa_any {prog : Program} {w : World} {A : Around} {K : Frag} {x C dx : Addr} {s : Shared} {R : Result → Shared → Prop} {name : Str} {tk : Tok} {v : Value} {es : List DictEntry} {m : Nat} {cd : ClassData} (X : K.In s.heap) (I : W.InstAt s.heap x (instObj C dx) C (some (dictOf es m))) (hp : plainOver K C = true) (ht : takerIn K C name = some none)
    (hc : clsIn K C = some cd) (hd' : cd.hasDict = true) (hnr : es.any (·.refKey) = false) (hz : (putL name (PyData.keyHash w.params name) (.str name s.toks) v es).length ≤ 1000)
    (h : R (.ok (.ret .none)) { s with heap := s.heap.update dx (Obj.putName name (PyData.keyHash w.params name) (.str name s.toks) v), toks := s.toks + 1 }) :
    codeAny (model prog w) A (.call (.builtin "object.__setattr__") ⟨[.ref x, .str name tk, v], []⟩) R s := by
  refine osa_open X I hp ht fun b => ?_
  obtain ⟨hx, -, -, D⟩ := I
  have D' := Heap.get?_update_self (Obj.putName name (PyData.keyHash w.params name) (.str name s.toks) v) D (by rw [putName_dict]; rfl)
  rw [putName_dict] at D'
  refine wpAny_bind (wpAny_pure (wpAny_bind (wpAny_bind (wpAny_loadPart hx (wpAny_bind ((looks_clsIn X hc).here ?_))))))
  rw [hd']
  refine wpAny_pure (a := some dx) (wpAny_bind (wpAny_pure (wpAny_bind ?_)))
  unfold nsSet
  refine wpAny_bind (wpAny_bind (wpAny_askSetting (wpAny_pure (wpAny_bind (wpAny_mkText (wpAny_bind (wpAny_loadPart D ?_)))))))
  have q : (dictOf es m).data = .dict es.toArray m := rfl
  rw [q]
  dsimp only
  have cc : (!es.toArray.any (·.key.isStr name) && es.toArray.any (·.refKey)) = false := by
    rw [← Array.any_toList, ← Array.any_toList, hnr, Bool.and_false]
  rw [aRefKeyMayBeTheName_at, cc]
  refine wpAny_updatePart D ?_
  refine wpAny_bind (wpAny_lookBehind D' (pastItsLine_dict (by rw [List.size_toArray, sizeLine_eq]; omega)) ?_)
  exact wpAny_pure h
theorem set_val (C : Cok n lf c) (I : Inv c fr tb env vs αs σ s.heap) {a k kk : Nat} {p : Addr × Addr} {fs : List (Nat × V)} {v : Value} {V : V} (hp : αs[k]? = some p) (hc : σ[k]? = some (.ins kk fs)) (hpl : plainAt (c.T.ak a) kk = true) (han : c.T.an a ≠ ("" : Str)) (hz : fs.length < 50)
    (R : VR (Fz (Wl c fr αs σ) s.heap) αs v V) {Q : Unit → Shared → Prop} {E : Value → Shared → Prop}
    (hq : ∀ h' tk, Inv c fr tb env vs αs (σ.set k (.ins kk (setA fs a V))) h' → Nx c fr αs σ s.heap αs (σ.set k (.ins kk (setA fs a V))) h' → Q () { s with heap := h', toks := tk }) :
    wpAny (model c.prog c.w) c.A (setAttr (.ref p.1) (c.T.an a) v) Q E s := by
  obtain ⟨⟨g, f, hg⟩, hne, hi, es, m, hd, hr, hz'⟩ := I.st.cell k p _ hp hc
  obtain ⟨cd, hcd, hhd, hga, hat, _⟩ := C.wd.clsF g kk f hg
  obtain ⟨hsa, hpo⟩ := C.wd.setF g kk f hg
  have hK : c.K.In s.heap := C.wd.kin.keeps I.st.base
  have IA : W.InstAt s.heap p.1 (instObj (c.ca kk) p.2) (c.ca kk) (some { cls := .type "dict", data := .dict es m }) := ⟨hi, rfl, rfl, hd⟩
  have ht : takerIn c.K (c.ca kk) (c.T.an a) = some none := by unfold takerIn; rw [hat a hpl]; rfl
  have hdd : s.heap.get? p.2 = some (dictOf es.toList m) := by simpa [dictOf] using hd
  have hlen := FRel.len hr
  have hsz : (putL (c.T.an a) (PyData.keyHash c.w.params (c.T.an a)) (.str (c.T.an a) (s.toks + 1)) v es.toList).length ≤ 100 := Nat.le_trans (putL_len ..) (by omega)
  have D' := Heap.get?_update_self (Obj.putName (c.T.an a) (PyData.keyHash c.w.params (c.T.an a)) (.str (c.T.an a) (s.toks + 1)) v) hdd (by rw [putName_dict]; rfl)
  rw [putName_dict] at D'
  refine set_plain hK IA hsa (osa_any (s := { s with toks := s.toks + 1 }) (es := es.toList) (m := m) hK ⟨hi, rfl, rfl, hdd⟩ hpo ht hcd hhd (FRel.noRef hr) (by show List.length (putL _ _ (.str _ (s.toks + 1)) _ _) ≤ 1000; omega) ?_)
  have kb : ∀ b o, b ≠ p.2 → s.heap.get? b = some o → (s.heap.update p.2 (Obj.putName (c.T.an a) (PyData.keyHash c.w.params (c.T.an a)) (.str (c.T.an a) (s.toks + 1)) v)).get? b = some o := fun b o hb e => (Heap.get?_update_other _ _ (Ne.symm hb)).trans e
  have I₂ : Inv c fr tb env vs αs (σ.set k (.ins kk (setA fs a V))) _ := I.upd (cl' := .ins kk (setA fs a V)) hp hc rfl rfl rfl (a := p.2) (by simp [adr]) kb (fun kz => ⟨⟨g, f, hg⟩, hne, kb _ _ hne hi, _, _, D', by
    rw [List.toList_toArray]
    exact FRel.set (fun b => fun q => C.wd.anI a b q han) (R.mono kz ⟨[], by simp⟩) (hr.mono kz ⟨[], by simp⟩), by rw [List.size_toArray]; exact hsz⟩)
  have N₂ : Nx c fr αs σ s.heap αs (σ.set k (.ins kk (setA fs a V))) _ := St.upd_nx I.st (cl' := .ins kk (setA fs a V)) hp hc rfl rfl rfl (a := p.2) (by simp [adr]) kb
  exact hq _ _ I₂ N₂
theorem sound_sat {e x : X} {live : Bool} (He : SoundX n lf Fo e) (H : SoundX n lf Fo x) (HN : SoundN n lf Fo x) (a : Nat) (pa p : Pos) : SoundS n lf Fo (.sat e a live pa x p) := by
  intro c C fr sc tb env vs αs σ s Q E I G W ok hn hq hx
  simp only [q_okS_3, Bool.and_eq_true, bne_iff_ne] at ok
  obtain ⟨⟨oke, okx⟩, han⟩ := ok
  simp only [q_exS_3] at hn hq hx
  simp only [q_sE_3]
  have hs : swapsWith (xE c.T tb x) (some (.Attribute (xE c.T tb e) (c.T.an a) pa)) p.line env = pure false := by
    cases x with
    | dead e => simp [q_okX_20] at okx
    | _ => simp only [q_xE_0, q_xE_1, q_xE_2, q_xE_3, q_xE_4, q_xE_5, q_xE_6, q_xE_7, q_xE_8, q_xE_9, q_xE_10, q_xE_11, q_xE_12, q_xE_13, q_xE_14, q_xE_15, q_xE_16, q_xE_17, q_xE_18, q_xE_19]; rfl
  refine plainObj_wpAny_Assign_Attribute ?_ hs
  generalize hr₀ : ((if live = true then evN c.T Fo vs x σ else ev c.T Fo vs x σ).bind fun v σ => (ev c.T Fo vs e σ).bind fun w σ => _) = r at hn hq hx
  have fin : ∀ V σ₁ v αs₁ h₁ t₁, r = ((ev c.T Fo vs e σ₁).bind fun w σ => match w with
      | .o k => match σ[k]? with
        | some (.ins c' fs) => if plainAt (c.T.ak a) c' && decide (fs.length < 50) then Out.ok (Fl.next vs) (σ.set k (.ins c' (setA fs a V))) else .stuck
        | _ => .stuck
      | _ => .stuck) → Inv c fr tb env vs αs₁ σ₁ h₁ → Nx c fr αs σ s.heap αs₁ σ₁ h₁ → VR (Fz (Wl c fr αs₁ σ₁) h₁) αs₁ v V → HX c lf fr αs₁ σ₁ { s with heap := h₁, toks := t₁ } r E →
      wpAny (model c.prog c.w) c.A (eval (xE c.T tb e) env) (fun ov s₂ => wpAny (model c.prog c.w) c.A (setAttr ov (c.T.an a) v) (fun _ => Q .next) E s₂) E { s with heap := h₁, toks := t₁ } := by
    intro V σ₁ v αs₁ h₁ t₁ hr I₁ N₁ R₁ hx₁
    refine He.run (s := { s with heap := h₁, toks := t₁ }) C I₁ G oke hr hn hx₁ (fun U σ₂ u αs₂ h₂ t₂ hr₂ I₂ N₂ R₂ _ => ?_)
    rw [hr₂] at hn hq
    cases U with
    | d y => exact absurd rfl hn
    | o k =>
      obtain ⟨pp, hp, rfl⟩ := R₂
      simp only at hn hq
      cases hc : σ₂[k]? with
      | none => simp only [hc] at hn; exact absurd rfl hn
      | some cl =>
        cases cl with
        | ins kk fs =>
          simp only [hc] at hn hq
          by_cases hpl : (plainAt (c.T.ak a) kk && decide (fs.length < 50)) = true
          · simp only [hpl, if_true] at hq
            simp only [Bool.and_eq_true, decide_eq_true_eq] at hpl
            exact set_val (s := { s with heap := h₂, toks := t₂ }) C I₂ hp hc hpl.1 han hpl.2 (N₂.vr R₁) fun h' tk I' N' => hq _ _ rfl αs₂ h' tk I' ((N₁.trans N₂).trans N')
          · simp only [hpl] at hn; exact absurd rfl hn
        | _ => simp only [hc] at hn; exact absurd rfl hn
  cases live with
  | true =>
    simp only [if_true] at hr₀
    exact HN.run C I G okx hr₀.symm hn hx fun V σ₁ v αs₁ h₁ t₁ hr I₁ N₁ R₁ hx₁ => fin V σ₁ v αs₁ h₁ t₁ hr I₁ N₁ R₁ hx₁
  | false =>
    simp only [Bool.false_eq_true, if_false] at hr₀
    exact H.run C I G okx hr₀.symm hn hx fun V σ₁ v αs₁ h₁ t₁ hr I₁ N₁ R₁ hx₁ => fin V σ₁ v αs₁ h₁ t₁ hr I₁ N₁ R₁ hx₁
theorem put_stored_len {kvs : List (Str × PyData)} {k : Str} {x : PyData} : (put kvs k x).length ≤ kvs.length + 1 := by
  induction kvs with
  | nil => simp [put]
  | cons p r ih =>
    unfold put
    split
    · simp
    · simp only [List.length_cons]; omega
theorem DRel.length {z : Heap} : ∀ {kv : List (Str × Value)} {kd : List (Str × PyData)}, DRel z kv kd → kv.length = kd.length
  | _, _, .nil => rfl
  | _, _, .cons _ s => by simp [DRel.length s]
theorem sound_sit {e i x : X} (He : SoundX n lf Fo e) (Hi : SoundX n lf Fo i) (H : SoundX n lf Fo x) (ps p : Pos) : SoundS n lf Fo (.sit e i ps x p) := by
  intro c C fr sc tb env vs αs σ s Q E I G W ok hn hq hx
  simp only [q_okS_4, Bool.and_eq_true] at ok
  obtain ⟨⟨oke, oki⟩, okx⟩ := ok
  simp only [q_exS_4] at hn hq hx
  simp only [q_sE_4]
  have hs : swapsWith (xE c.T tb x) (some (.Subscript (xE c.T tb e) (xE c.T tb i) ps)) p.line env = pure false := by
    cases x with
    | dead e => simp [q_okX_20] at okx
    | _ => simp only [q_xE_0, q_xE_1, q_xE_2, q_xE_3, q_xE_4, q_xE_5, q_xE_6, q_xE_7, q_xE_8, q_xE_9, q_xE_10, q_xE_11, q_xE_12, q_xE_13, q_xE_14, q_xE_15, q_xE_16, q_xE_17, q_xE_18, q_xE_19]; rfl
  refine wpAny_Assign_Subscript ?_ hs
  refine H.run C I G okx rfl hn hx (fun V σ₁ v αs₁ h₁ t₁ hr I₁ N₁ R₁ hx₁ => ?_)
  rw [hr] at hn hq hx₁
  cases he : esc V σ₁ with
  | stuck => rw [he] at hn; exact absurd rfl hn
  | ex => exact absurd he esc_ne
  | ok y σ₂ =>
    rw [he, ok_bind] at hn hq hx₁
    obtain ⟨I₂, N₂, R₂⟩ := esc_ok I₁ R₁ he
    have hx₂ := hx₁.after (s := { s with heap := h₁, toks := t₁ }) (h := h₁) (t := t₁) (r' := (ev c.T Fo vs e σ₂).bind _) N₂ id
    refine He.run (s := { s with heap := h₁, toks := t₁ }) C I₂ G oke rfl hn hx₂ (fun U σ₃ u αs₃ h₃ t₃ hr₃ I₃ N₃ R₃ hx₃ => ?_)
    rw [hr₃] at hn hq hx₃
    refine Hi.run (s := { s with heap := h₃, toks := t₃ }) C I₃ G oki rfl hn hx₃ (fun Z σ₄ z αs₄ h₄ t₄ hr₄ I₄ N₄ R₄ _ => ?_)
    rw [hr₄] at hn hq
    cases U with
    | d y => exact absurd rfl hn
    | o k =>
      cases Z with
      | o j => exact absurd rfl hn
      | d zz =>
        cases zz with
        | str st =>
          obtain ⟨pp, hp, rfl⟩ := N₄.vr R₃
          simp only at hn hq
          cases hc : σ₄[k]? with
          | none => simp only [hc] at hn; exact absurd rfl hn
          | some cl =>
            cases cl with
            | dct kvs =>
              simp only [hc] at hn hq
              by_cases hz : kvs.length < 1000
              · simp only [hz, if_true] at hq
                obtain ⟨tk, rfl⟩ := Rd.str R₄
                obtain ⟨kv, hd, hr'⟩ := I₄.st.cell k pp _ hp hc
                have hkl := hr'.length
                refine wpAny_setItem_pairs (s := { s with heap := h₄, toks := t₄ }) (str_key _ _ st tk) hd (fun h' hd' hs' => ?_) (by rw [sizeLine_eq]; omega)
                have kb : ∀ b o, b ≠ pp.1 → h₄.get? b = some o → h'.get? b = some o := fun b o hb e => (hs'.2 b hb).trans e
                have hnd : (kv.map (·.1)).Nodup := by obtain ⟨_, _, _, _, _, _, _, _, hn⟩ := hd; exact hn
                have R₂' := (N₃.trans N₄).rd R₂
                have I₅ : Inv c fr tb env vs αs₄ (σ₄.set k (.dct (put kvs st y))) h' := I₄.upd (cl' := .dct (put kvs st y)) hp hc rfl rfl rfl (a := pp.1) (by simp [adr]) kb (fun kz => ⟨_, hd', DRel.put (R₂'.keeps kz) (hr'.keeps kz) hnd⟩)
                have N₅ : Nx c fr αs₄ σ₄ h₄ αs₄ (σ₄.set k (.dct (put kvs st y))) h' := St.upd_nx I₄.st (cl' := .dct (put kvs st y)) hp hc rfl rfl rfl (a := pp.1) (by simp [adr]) kb
                exact hq _ _ rfl αs₄ h' _ I₅ ((((N₁.trans N₂).trans N₃).trans N₄).trans N₅)
              · simp only [hz, if_false] at hn; exact absurd rfl hn
            | _ => simp only [hc] at hn; exact absurd rfl hn
        | _ => exact absurd rfl hn
end
section
variable {n : Nat} {lf : Addr} {Fo : Orc} {c : Cx} {fr fr₂ wr : List Addr} {sc sc' : Scope} {tb tb' : List (Str × Nat)} {env cenv : Env} {vs vs₀ : Vs} {αs αs' αs'' αs₀ αs₁ αs₂ : List (Addr × Addr)} {σ σ' σ'' σ₀ σ₁ σ₂ : Sg} {s : Shared} {h h₁ h₂ h₃ h' h'' : Heap}
theorem exn_came {A : Around} {M : Model} {env : Env} {W : List Addr} {e : Addr} {E : Value → Shared → Prop} (X : Exn c lf W h true e s.heap) (hq : ∀ h', Exn c lf W h true e h' → E (.ref e) { s with heap := h' }) : cameBackBy M A env E (.ref e) s := by
  obtain ⟨oe, vs, h1, h2, h3, h4, h5⟩ := X.ex
  unfold cameBackBy
  rcases h5 with ⟨h5, h6⟩ | ⟨T, oT, ts, a1, a2, a3, a4, a5, a6, a7⟩
  · cases h5
  · refine wpAny_bind (wpAny_field h1 h3 a1 ?_)
    rw [if_neg (show ¬ ((Value.ref T == Value.none) = true) from by simp)]
    exact exn_flight X hq
theorem sound_whl {t : X} {a : SL} (Ht : SoundT n lf Fo t) (Ha : SoundL n lf Fo a) (p : Pos) : SoundS n lf Fo (.whl t a p) := by
  intro c C fr sc tb env vs αs σ s Q E I G W ok hn hq hx
  simp only [q_okS_7, Bool.and_eq_true] at ok
  simp only [q_exS_7] at hn hq hx
  simp only [q_sE_7]
  generalize hr₀ : whiles (fun vs σ => ev c.T Fo vs t σ) (fun vs σ => exL c.T Fo a vs σ) 200 vs σ = r at hn hq hx
  refine wpAny_While (codeAny_whileLoop (fun k s' => ∃ vs₁ αs₁ σ₁ h tk, s' = { s with heap := h, toks := tk } ∧ Inv c fr tb env vs₁ αs₁ σ₁ h ∧ Nx c fr αs σ s.heap αs₁ σ₁ h ∧ r = whiles (fun vs σ => ev c.T Fo vs t σ) (fun vs σ => exL c.T Fo a vs σ) k vs₁ σ₁) ?_ 200 ⟨vs, αs, σ, s.heap, s.toks, rfl, I, .refl, hr₀.symm⟩)
  rintro k s' ⟨vs₁, αs₁, σ₁, h, tk, rfl, I₁, N₁, hr⟩
  obtain ⟨e₀, outer, L, g1, g2, g3⟩ := I.ek.frame
  cases k with
  | zero => simp only [whiles] at hr; exact absurd hr hn
  | succ k =>
    simp only [whiles] at hr
    have back : ∀ {αs₂ σ₂ h₂} (s₂ : Shared) (β : Type) (r₂ : Out β), St c fr αs₂ σ₂ h₂ → Nx c fr αs σ s.heap αs₂ σ₂ h₂ → (r₂ = .ex → r = .ex) → s₂.heap = h₂ → (∀ h' tk, { s₂ with heap := h', toks := tk } = ({ s with heap := h', toks := tk } : Shared)) →
        HX c lf fr αs₂ σ₂ s₂ r₂ (notedBy (model c.prog c.w) c.A env fun e s' => (match (Except.error e : Result) with | .ok f => Q f s' | .error e => cameBackBy (model c.prog c.w) c.A env E e s')) := by
      rintro αs₂ σ₂ h₂ s₂ β r₂ S₂ N₂ hr₂ rfl hs e nt x h' tk X
      rw [hs]
      refine exn_noted (s := { s with heap := h', toks := tk }) S₂.fit C.fm g1 g2 g3 X fun h₃ X₃ => ?_
      exact exn_came (s := { s with heap := h₃, toks := tk }) (X₃.before N₂) fun h₄ X₄ => hx (hr₂ e) true x h₄ tk X₄
    refine Ht.run (s := { s with heap := h, toks := tk }) (f := fun v σ => match v with
        | .d (.bool true) => (exL c.T Fo a vs₁ σ).bind fun fl σ => match fl with
          | .next vs => whiles (fun vs σ => ev c.T Fo vs t σ) (fun vs σ => exL c.T Fo a vs σ) k vs σ
          | .ret v => .ok (.ret v) σ
        | .d (.bool false) => .ok (.next vs₁) σ
        | _ => .stuck) C I₁ G ok.1 hr hn (fun V σ h => ?_) (back _ Fl r I₁.st N₁ id rfl fun _ _ => rfl) (fun b σ₂ αs₂ h₂ t₂ hr₂ I₂ N₂ hx₂ => ?_)
    · split at h
      · exact ⟨_, rfl⟩
      · exact ⟨_, rfl⟩
      · exact absurd rfl h
    · cases b with
      | false =>
        simp only [Bool.false_eq_true, if_false]
        exact wpAny_execs_nil (hq _ _ hr₂ αs₂ h₂ t₂ I₂ (N₁.trans N₂))
      | true =>
        simp only [if_true]
        simp only at hr₂
        refine Ha c C fr sc tb env vs₁ αs₂ σ₂ { s with heap := h₂, toks := t₂ } _ _ I₂ G W ok.2 (bind_ok hr₂ hn) (fun fl σ₃ e₃ => ?_) (fun e => hx₂ (by rw [hr₂, e]; rfl))
        rw [e₃, ok_bind] at hr₂
        cases fl with
        | next vs₃ => exact fun αs₃ h₃ t₃ I₃ N₃ => ⟨k, Nat.lt_succ_self k, vs₃, αs₃, σ₃, h₃, t₃, rfl, I₃, (N₁.trans N₂).trans N₃, hr₂⟩
        | ret V => exact fun v αs₃ h₃ t₃ R₃ N₃ V₃ => hq _ _ hr₂ v αs₃ h₃ t₃ R₃ ((N₁.trans N₂).trans N₃) V₃
theorem lendL_W {b : Addr} : b ∈ Wl (c.deep wr) fr αs σ ↔ b ∈ wr ∨ b ∈ Wl c fr αs σ := by
  rw [mem_Wl, mem_Wl]
  show b ∈ fr ∨ b ∈ wr ++ c.amb ∨ _ ↔ _
  rw [List.mem_append]
  constructor
  · rintro (q | (q | q) | q)
    · exact .inr (.inl q)
    · exact .inl q
    · exact .inr (.inr (.inl q))
    · exact .inr (.inr (.inr q))
  · rintro (q | q | q | q)
    · exact .inr (.inl (.inl q))
    · exact .inl q
    · exact .inr (.inl (.inr q))
    · exact .inr (.inr q)
theorem Newer.zl (N : Newer wr h₁ h₂) : ∀ b o, (Fz (Wl c fr αs σ) h₁).get? b = some o → (Fz (Wl (c.deep wr) fr αs σ) h₂).get? b = some o := by
  intro b o e
  obtain ⟨e1, e2⟩ := fz_iff.mp e
  refine fz_iff.mpr ⟨N.keep b o e1, fun hm => ?_⟩
  rcases lendL_W.mp hm with q | q
  · rw [N.new b q] at e1; cases e1
  · exact e2 q
theorem Inv.lendL (I : Inv c fr tb env vs αs σ h₁) (N : Newer wr h₁ h₂) : Inv (c.deep wr) fr tb env vs αs σ h₂ := by
  have z := N.zl (c := c) (fr := fr) (αs := αs) (σ := σ)
  refine ⟨⟨I.st.len, fun k p cl e1 e2 => ?_, I.st.ap1, fun k p cl e1 e2 a ha => ?_, fun a ha hm => ?_, fun a ha => ?_, fun a o e => N.keep _ _ (I.st.base a o e), ?_, fun L hL => (I.st.frin L hL).imp id (fun q => List.mem_append.mpr (.inr q)), fun a ha => ?_⟩, ?_, ?_⟩
  · have := (I.st.cell k p cl e1 e2).keep (h' := h₂) (αs' := αs) z (fun a _ o e => N.keep a o e) ⟨[], by simp⟩
    exact CellR.amb (l := c.amb) this
  · obtain ⟨x, y, w⟩ := I.st.ap2 k p cl e1 e2 a ha
    refine ⟨x, fun q => (List.mem_append.mp q).elim (fun q => ?_) y, w⟩
    obtain ⟨o, e⟩ := (I.st.cell k p cl e1 e2).there a ha
    rw [N.new a q] at e; cases e
  · rcases List.mem_append.mp hm with q | q
    · exact (N.apart I.st q).1 ha
    · exact I.st.ap3 a ha q
  · rcases ha with ha | ha
    · exact I.st.ap4 a (.inl ha)
    · rcases List.mem_append.mp ha with q | q
      · exact (N.apart I.st q).2.2
      · exact I.st.ap4 a (.inr q)
  · refine ff_of I.st.ff fun L hL => ?_
    obtain ⟨_, o, ho, hd⟩ := I.st.ff.mem hL
    exact ⟨o, N.keep _ _ ho, hd⟩
  · rcases ha with ha | ha
    · obtain ⟨o, e⟩ := I.st.thr a (.inl ha); exact ⟨o, N.keep _ _ e⟩
    · rcases List.mem_append.mp ha with q | q
      · exact N.there a q
      · obtain ⟨o, e⟩ := I.st.thr a (.inr q); exact ⟨o, N.keep _ _ e⟩
  · exact ⟨I.ek.kind, I.ek.glob, I.ek.blt, I.ek.frame, I.ek.loc, I.ek.cel, I.ek.inj, I.ek.locIn.imp id (fun q => List.mem_append.mpr (.inr q)), fun nm a e => let ⟨x, y⟩ := I.ek.celIn nm a e; ⟨x.imp id (fun q => List.mem_append.mpr (.inr q)), y⟩, I.ek.celInj⟩
  · obtain ⟨⟨m, hns, hm⟩, hc⟩ := I.fv
    refine ⟨⟨m, hns.keeps N.keep, fun i nm V e g => ?_⟩, fun i nm e => ?_⟩
    · obtain ⟨v, e1, e2⟩ := hm i nm V e g
      exact ⟨v, e1, e2.mono z ⟨[], by simp⟩⟩
    · obtain ⟨a, ov, e1, e2, e3⟩ := hc i nm e
      refine ⟨a, ov, e1, e2.keeps N.keep, fun V g => ?_⟩
      obtain ⟨v, e4, e5⟩ := e3 V g
      exact ⟨v, e4, e5.mono z ⟨[], by simp⟩⟩
theorem Inv.lentTouch (I : Inv (c.deep wr) fr tb env vs αs σ h) (hnf : ∀ b ∈ wr, b ∉ c.frs.filterMap (·.frame)) (hno : ∀ b ∈ wr, NotOwn env b) (kb : ∀ b o, b ∉ wr → h.get? b = some o → h'.get? b = some o) (th : ∀ b ∈ wr, ∃ o, h'.get? b = some o) :
    Inv (c.deep wr) fr tb env vs αs σ h' ∧ ∀ b o, (Fz (Wl (c.deep wr) fr αs σ) h).get? b = some o → (Fz (Wl (c.deep wr) fr αs σ) h').get? b = some o := by
  have hin : ∀ b ∈ wr, b ∈ (c.deep wr).amb := fun b hb => List.mem_append.mpr (.inl hb)
  have z : ∀ b o, (Fz (Wl (c.deep wr) fr αs σ) h).get? b = some o → (Fz (Wl (c.deep wr) fr αs σ) h').get? b = some o := by
    intro b o e
    obtain ⟨e1, e2⟩ := fz_iff.mp e
    exact fz_iff.mpr ⟨kb b o (fun q => e2 (lendL_W.mpr (.inl q))) e1, e2⟩
  refine ⟨⟨⟨I.st.len, fun j q dl h1 h2 => ?_, I.st.ap1, I.st.ap2, I.st.ap3, I.st.ap4, fun b o e => ?_, ?_, I.st.frin, fun b hb => ?_⟩, I.ek, ?_⟩, z⟩
  · exact (I.st.cell j q dl h1 h2).keep z (fun b hb o e => kb b o (fun w => (I.st.ap2 j q dl h1 h2 b hb).2.1 (hin b w)) e) ⟨[], by simp⟩
  · exact kb b o (fun w => by have := I.st.ap4 b (.inr (hin b w)); rw [e] at this; cases this) (I.st.base b o e)
  · refine ff_of I.st.ff fun L hL => ?_
    obtain ⟨_, o, ho, hd⟩ := I.st.ff.mem hL
    exact ⟨o, kb L o (fun q => hnf L q hL) ho, hd⟩
  · by_cases q : b ∈ wr
    · exact th b q
    · obtain ⟨o, ho⟩ := I.st.thr b hb
      exact ⟨o, kb b o q ho⟩
  · obtain ⟨⟨m, ⟨o, es, ep, ho, hns⟩, hm⟩, hc⟩ := I.fv
    refine ⟨⟨m, ⟨o, es, ep, kb _ _ (fun q => (hno _ q).1 rfl) ho, hns⟩, fun i nm V e g => ?_⟩, fun i nm e => ?_⟩
    · obtain ⟨v, e1, e2⟩ := hm i nm V e g
      exact ⟨v, e1, e2.mono z ⟨[], by simp⟩⟩
    · obtain ⟨a, ov, e1, ⟨o, ho, hd⟩, e3⟩ := hc i nm e
      refine ⟨a, ov, e1, ⟨o, kb _ _ (fun q => (hno _ q).2 nm e1) ho, hd⟩, fun V g => ?_⟩
      obtain ⟨v, e4, e5⟩ := e3 V g
      exact ⟨v, e4, e5.mono z ⟨[], by simp⟩⟩
theorem Inv.unlend (I₀ : Inv c fr tb env vs₀ αs₀ σ₀ h₁) (I : Inv (c.deep wr) fr tb env vs αs σ h) (hnf : ∀ b ∈ wr, b ∉ c.frs.filterMap (·.frame)) (hno : ∀ b ∈ wr, NotOwn env b) (hn : ∀ b ∈ wr, b ∉ c.amb) (kb : ∀ b o, b ∉ wr → h.get? b = some o → h'.get? b = some o) : Inv c fr tb env vs αs σ h' := by
  have hin : ∀ b ∈ wr, b ∈ (c.deep wr).amb := fun b hb => List.mem_append.mpr (.inl hb)
  have z : ∀ b o, (Fz (Wl (c.deep wr) fr αs σ) h).get? b = some o → (Fz (Wl c fr αs σ) h').get? b = some o := by
    intro b o e
    obtain ⟨e1, e2⟩ := fz_iff.mp e
    exact fz_iff.mpr ⟨kb b o (fun q => e2 (lendL_W.mpr (.inl q))) e1, fun q => e2 (lendL_W.mpr (.inr q))⟩
  refine ⟨⟨I.st.len, fun j q dl h1 h2 => ?_, I.st.ap1, fun k p cl e1 e2 a ha => ?_, I₀.st.ap3, I₀.st.ap4, fun b o e => ?_, ?_, I₀.st.frin, fun b hb => ?_⟩, I₀.ek, ?_⟩
  · have := (I.st.cell j q dl h1 h2).keep (h' := h') (αs' := αs) z (fun b hb o e => kb b o (fun w => (I.st.ap2 j q dl h1 h2 b hb).2.1 (hin b w)) e) ⟨[], by simp⟩
    exact CellR.amb (l' := c.amb) this
  · obtain ⟨x, y, w⟩ := I.st.ap2 k p cl e1 e2 a ha
    exact ⟨x, fun q => y (List.mem_append.mpr (.inr q)), w⟩
  · exact kb b o (fun w => by have := I.st.ap4 b (.inr (hin b w)); rw [e] at this; cases this) (I.st.base b o e)
  · refine ff_of I.st.ff fun L hL => ?_
    obtain ⟨_, o, ho, hd⟩ := I.st.ff.mem hL
    exact ⟨o, kb L o (fun q => hnf L q hL) ho, hd⟩
  · obtain ⟨o, ho⟩ := I.st.thr b (hb.imp id (fun q => List.mem_append.mpr (.inr q)))
    refine ⟨o, kb b o (fun q => ?_) ho⟩
    rcases hb with hb | hb
    · exact I.st.ap3 b hb (hin b q)
    · exact hn b q hb
  · obtain ⟨⟨m, ⟨o, es, ep, ho, hns⟩, hm⟩, hc⟩ := I.fv
    refine ⟨⟨m, ⟨o, es, ep, kb _ _ (fun q => (hno _ q).1 rfl) ho, hns⟩, fun i nm V e g => ?_⟩, fun i nm e => ?_⟩
    · obtain ⟨v, e1, e2⟩ := hm i nm V e g
      exact ⟨v, e1, e2.mono z ⟨[], by simp⟩⟩
    · obtain ⟨a, ov, e1, ⟨o, ho, hd⟩, e3⟩ := hc i nm e
      refine ⟨a, ov, e1, ⟨o, kb _ _ (fun q => (hno _ q).2 nm e1) ho, hd⟩, fun V g => ?_⟩
      obtain ⟨v, e4, e5⟩ := e3 V g
      exact ⟨v, e4, e5.mono z ⟨[], by simp⟩⟩
theorem nx_lent (hw : ∀ a ∈ wr, h₁.get? a = none) (N₀ : Nx c fr αs σ h₁ αs₁ σ₁ h) (N : Nx (c.deep wr) fr αs₁ σ₁ h αs₂ σ₂ h₂) : Nx c fr αs σ h₁ αs₂ σ₂ h₂ := by
  refine ⟨fun b o hb e => ?_, fun b hb o e => ?_, ?_⟩
  · obtain ⟨e1, e2⟩ := N₀.fz b o hb e
    obtain ⟨e3, e4⟩ := N.fz b o (fun q => (lendL_W.mp q).elim (fun q => by rw [hw b q] at e; cases e) e2) e1
    exact ⟨e3, fun q => e4 (lendL_W.mpr (.inr q))⟩
  · obtain ⟨⟨sl, e1⟩, k1⟩ := N₀.am b hb o e
    obtain ⟨⟨sl2, e2⟩, k2⟩ := N.am b (List.mem_append.mpr (.inr hb)) _ e1
    exact ⟨⟨sl2, e2⟩, fun hn => (N.am b (List.mem_append.mpr (.inr hb)) o (k1 hn)).2 hn⟩
  · obtain ⟨l, rfl⟩ := N₀.ext
    obtain ⟨m, rfl⟩ := N.ext
    exact ⟨l ++ m, by rw [List.append_assoc]⟩
theorem nx_touch (hw : ∀ a ∈ wr, h₁.get? a = none) (ha : ∀ b ∈ wr, b ∉ c.amb) (N₀ : Nx c fr αs σ h₁ αs₁ σ₁ h) (kb : ∀ b o, b ∉ wr → h.get? b = some o → h'.get? b = some o) : Nx c fr αs σ h₁ αs₁ σ₁ h' := by
  refine ⟨fun b o hb e => ?_, fun b hb o e => ?_, N₀.ext⟩
  · obtain ⟨e1, e2⟩ := N₀.fz b o hb e
    exact ⟨kb b o (fun q => by rw [hw b q] at e; cases e) e1, e2⟩
  · have hn : b ∉ wr := fun q => ha b q hb
    obtain ⟨⟨sl, e1⟩, k1⟩ := N₀.am b hb o e
    exact ⟨⟨sl, kb b _ hn e1⟩, fun hf => kb b o hn (k1 hf)⟩
theorem exn_lent {e : Addr} {nt : Bool} (hw : ∀ a ∈ wr, h₁.get? a = none) (N₀ : Nx c fr αs σ h₁ αs₁ σ₁ h) (X : Exn (c.deep wr) lf (Wl (c.deep wr) fr αs₁ σ₁) h nt e h') : Exn c lf (Wl c fr αs σ) h₁ nt e h' := by
  have un : ∀ {x : Addr}, Un (c.deep wr) (Wl (c.deep wr) fr αs₁ σ₁) h x → Un c (Wl c fr αs σ) h₁ x := by
    intro x u o ho
    by_cases hx : x ∈ Wl c fr αs σ
    · refine ⟨hx, fun ha => ?_⟩
      obtain ⟨⟨sl, e1⟩, _⟩ := N₀.am x ha o ho
      exact (u _ e1).2 (List.mem_append.mpr (.inr ha))
    · obtain ⟨e1, e2⟩ := N₀.fz x o hx ho
      obtain ⟨u1, u2⟩ := u _ e1
      rcases lendL_W.mp u1 with q | q
      · exact absurd (List.mem_append.mpr (.inl q)) u2
      · exact absurd q e2
  refine ⟨fun b o hb q => ?_, fun b hb o q => ?_, X.ff, un X.un, X.base, ?_⟩
  · obtain ⟨e1, e2⟩ := N₀.fz b o hb q
    exact X.fz b o (fun hm => (lendL_W.mp hm).elim (fun z => by rw [hw b z] at q; cases q) e2) e1
  · obtain ⟨⟨sl, e1⟩, k1⟩ := N₀.am b hb o q
    obtain ⟨⟨sl2, e2⟩, k2⟩ := X.am b (List.mem_append.mpr (.inr hb)) _ e1
    exact ⟨⟨sl2, e2⟩, fun hn => (X.am b (List.mem_append.mpr (.inr hb)) o (k1 hn)).2 hn⟩
  · obtain ⟨oe, vs, e1, e2, e3, e4, e5⟩ := X.ex
    refine ⟨oe, vs, e1, e2, e3, e4, ?_⟩
    rcases e5 with e5 | ⟨T, oT, ts, a1, a2, a3, a4, a5, a6, a7⟩
    · exact .inl e5
    · exact .inr ⟨T, oT, ts, a1, a2, a3, a4, a5, un a6, a7⟩
theorem Rt.unlend (R : Rt (c.deep wr) fr αs σ h) : Rt c fr αs σ h ∧ ∀ b o, (Fz (Wl (c.deep wr) fr αs σ) h).get? b = some o → (Fz (Wl c fr αs σ) h).get? b = some o := by
  have z : ∀ b o, (Fz (Wl (c.deep wr) fr αs σ) h).get? b = some o → (Fz (Wl c fr αs σ) h).get? b = some o := by
    intro b o e
    obtain ⟨e1, e2⟩ := fz_iff.mp e
    exact fz_iff.mpr ⟨e1, fun q => e2 (lendL_W.mpr (.inr q))⟩
  refine ⟨⟨R.len, fun k p cl e1 e2 => ?_, R.ap1, fun k p cl e1 e2 a ha => ?_, R.base, R.ff⟩, z⟩
  · have := (R.cell k p cl e1 e2).keep (h' := h) (αs' := αs) z (fun a _ o e => e) ⟨[], by simp⟩
    exact CellR.amb (l' := c.amb) this
  · obtain ⟨x, y, w⟩ := R.ap2 k p cl e1 e2 a ha
    exact ⟨x, fun q => y (List.mem_append.mpr (.inr q)), w⟩
end
section
variable {n : Nat} {lf : Addr} {Fo : Orc} {c : Cx} {fr fr₂ wr : List Addr} {sc sc' : Scope} {tb tb' : List (Str × Nat)} {env cenv : Env} {vs vs₀ : Vs} {αs αs' αs'' αs₀ αs₁ αs₂ : List (Addr × Addr)} {σ σ' σ'' σ₀ σ₁ σ₂ : Sg} {s : Shared} {h h₁ h₂ h₃ h' h'' : Heap}
inductive ForI (c : Cx) (fr wr : List Addr) (tb : List (Str × Nat)) (env : Env) (αs : List (Addr × Addr)) (σ : Sg) (h₁ : Heap) (s : Shared) (zf : Heap) (tg : Tg) (f : Vs → Sg → Out Fl) (S : Nat → Heap → Prop) (ds : List PyData) (r : Out Fl) (k : Nat) (s' : Shared) : Prop where
  | mk (i : Nat) (vs₁ : Vs) (αs₁ : List (Addr × Addr)) (σ₁ : Sg) (h : Heap) (tk : Nat) (e1 : s' = { s with heap := h, toks := tk }) (e2 : k = ds.length + 1 - i) (e3 : i ≤ ds.length) (e4 : Inv (c.deep wr) fr tb env vs₁ αs₁ σ₁ h) (e5 : Nx c fr αs σ h₁ αs₁ σ₁ h) (e6 : S i h) (e7 : ∀ b o, zf.get? b = some o → (Fz (Wl (c.deep wr) fr αs₁ σ₁) h).get? b = some o) (e8 : r = goes f tg (ds.drop i) vs₁ σ₁) : ForI c fr wr tb env αs σ h₁ s zf tg f S ds r k s'
set_option tactic.hygienic true in
theorem sound_for {x y : X} {tg : Tg} {sk : SK} {a : SL} (H : SoundX n lf Fo x) (H' : SoundX n lf Fo y) (Ha : SoundL n lf Fo a) (p : Pos) : SoundS n lf Fo (.for_ tg sk x y a p) := by
  intro c C fr sc tb env vs αs σ s Q E I G W ok hn hq hx
  simp only [q_okS_8, Bool.and_eq_true, List.all_eq_true] at ok
  obtain ⟨⟨⟨⟨⟨ox, oy⟩, osk⟩, opr⟩, ot⟩, oa⟩ := ok
  simp only [q_exS_8] at hn hq hx
  simp only [q_sE_8]
  generalize hr₀ : (srcOf false sk (fun σ => ev c.T Fo vs x σ) (fun σ => ev c.T Fo vs y σ) σ).bind (fun ds σ => goes (fun vs σ => exL c.T Fo a vs σ) tg ds vs σ) = r at hn hq hx
  refine wpAny_For ?_ (no_fold ox)
  refine src_all (tb' := tb) (tg := tg) H H' C I G ox oy osk opr hr₀.symm hn hx (fun ds σ₁ αs₁ h₁ h' tk Ia wr fp S hr I₁ N₁ kp hw hIa hfp hS IS hlen hx₁ => ?_)
  obtain ⟨e₀, outer, L, g1, g2, g3⟩ := I.ek.frame
  have Nw : Newer wr h₁ h' := ⟨fun b hb => (hw b hb).1, fun b hb => (hw b hb).2, kp⟩
  have wrA : ∀ b ∈ wr, b ∉ fr ∧ b ∉ c.amb ∧ c.b₀.get? b = none := fun b hb => Nw.apart I₁.st hb
  have wrF : ∀ b ∈ wr, b ∉ c.frs.filterMap (·.frame) := fun b hb q => by
    obtain ⟨_, o, ho, _⟩ := I₁.st.ff.mem q
    rw [Nw.new b hb] at ho; cases ho
  have wrO : ∀ b ∈ wr, NotOwn env b := fun b hb => by
    refine ⟨fun q => ?_, fun nm q => ?_⟩
    · obtain ⟨o, e⟩ := I₁.st.thr env.locals I₁.ek.locIn
      rw [← q, Nw.new b hb] at e; cases e
    · obtain ⟨o, e⟩ := I₁.st.thr b (I₁.ek.celIn nm b q).1
      rw [Nw.new b hb] at e; cases e
  have fpO : ∀ b ∈ fp, NotOwn env b := fun b hb => by
    rcases hfp b hb with q | ⟨o, q⟩
    · exact wrO b q
    · have := (fz_iff.mp q).2
      refine ⟨fun e => this ?_, fun nm e => this ?_⟩
      · rw [e]; exact mem_Wl.mpr (I₁.ek.locIn.imp id .inl)
      · exact mem_Wl.mpr ((I₁.ek.celIn nm b e).1.imp id .inl)
  have C' : Cok n lf (c.deep wr) := C.amb _
  refine codeAny_forLoop_any (ForI c fr wr tb env αs₁ σ₁ h₁ s (Fz (Wl c fr αs₁ σ₁) h₁) tg (fun vs σ => exL c.T Fo a vs σ) S ds r) ?_ (ds.length + 1) ?_
  · rintro k s' ⟨i, vs₁, αs₂, σ₂, h, tk', rfl, rfl, hi, I₂, N₂, S₂, z₂, hr₂⟩
    have zh : ∀ b o, (Fz (Wl c fr αs₁ σ₁) h₁).get? b = some o → h.get? b = some o := fun b o e => Inv.z_in _ _ (z₂ b o e)
    let R : Result → Shared → Prop := fun r s' => match r with | .ok f => Q f s' | .error e => cameBackBy (model c.prog c.w) c.A env E e s'
    let E' : Value → Shared → Prop := notedBy (model c.prog c.w) c.A env fun e s' => R (.error e) s'
    by_cases hlt : i < ds.length
    · have hx_i : ds[i]? = some ds[i] := List.getElem?_eq_getElem hlt
      rw [List.drop_eq_getElem_cons hlt] at hr₂
      simp only [goes] at hr₂
      cases hb : bindT vs₁ tg ds[i] with
      | none => rw [hb] at hr₂; exact absurd hr₂ hn
      | some vs₂ =>
        rw [hb] at hr₂
        simp only at hr₂
        let J : Shared → Prop := fun s' => ∃ m, m < ds.length + 1 - i ∧ ForI c fr wr tb env αs₁ σ₁ h₁ s (Fz (Wl c fr αs₁ σ₁) h₁) tg (fun vs σ => exL c.T Fo a vs σ) S ds r m s'
        refine wpAny_mono (IS.step i ds[i] _ (fun v s₂ => wpAny (model c.prog c.w) c.A (assign (tgE tb tg) env v) (fun _ s₃ => wpAny (model c.prog c.w) c.A (execs (slSt c.T tb a) env) (fun f s₄ => match f with
            | .next | .cont => J s₄
            | .brk => R (.ok .next) s₄
            | .ret v => R (.ok (.ret v)) s₄) E' s₃) E' s₂) E' hx_i S₂ zh (fun v h₃ tk₃ S₃ k₃ hI => ?_) (fun hm => ?_)) (fun r' s₁ h₁ => ?_) fun _ _ e => e
        · obtain ⟨I₃, z₃⟩ := I₂.lentTouch wrF wrO k₃ (IS.thr _ _ S₃)
          have N₃ := nx_touch (fun b hb => Nw.new b hb) (fun b hb => (wrA b hb).2.1) N₂ k₃
          have z₀₃ : ∀ b o, (Fz (Wl c fr αs₁ σ₁) h₁).get? b = some o → (Fz (Wl (c.deep wr) fr αs₂ σ₂) h₃).get? b = some o := fun b o e => z₃ b o (z₂ b o e)
          refine bind_tg (s := { s with heap := h₃, toks := tk₃ }) (c := c.deep wr) C.rm.hd I₃ (fun j hj => W.slot (ot j hj)) (hI.keeps z₀₃) hb fun h₄ tk₄ I₄ N₄ k₄ => ?_
          have S₄ : S (i + 1) h₄ := IS.frame _ _ _ S₃ fun b hb o e => k₄ b o (fpO b hb) e
          have N₁₄ := nx_lent (fun b hb => Nw.new b hb) N₃ N₄
          have z₀₄ : ∀ b o, (Fz (Wl c fr αs₁ σ₁) h₁).get? b = some o → (Fz (Wl (c.deep wr) fr αs₂ σ₂) h₄).get? b = some o := fun b o e => N₄.z b o (z₀₃ b o e)
          refine Ha (c.deep wr) C' fr sc tb env vs₂ αs₂ σ₂ { s with heap := h₄, toks := tk₄ } _ _ I₄ G W oa (bind_ok hr₂ hn) (fun fl σ₃ e₃ => ?_) (fun e nt x h₅ tk₅ X => ?_)
          · dsimp only at e₃
            rw [e₃, ok_bind] at hr₂
            cases fl with
            | next vs₃ =>
              intro αs₅ h₅ tk₅ I₅ N₅
              refine ⟨ds.length + 1 - (i + 1), by omega, i + 1, vs₃, αs₅, σ₃, h₅, tk₅, rfl, rfl, hlt, I₅, nx_lent (fun b hb => Nw.new b hb) N₁₄ N₅, IS.frame _ _ _ S₄ fun b hb o e => ?_, fun b o e => N₅.z b o (z₀₄ b o e), hr₂⟩
              rcases hfp b hb with q | ⟨o', q⟩
              · exact (N₅.am b (List.mem_append.mpr (.inl q)) o e).2 (wrF b q)
              · have z := fz_iff.mp (z₀₄ b o' q)
                rw [e] at z; cases z.1
                exact (N₅.fz b o z.2 e).1
            | ret V =>
              intro v αs₅ h₅ tk₅ R₅ N₅ V₅
              obtain ⟨R₆, z₆⟩ := R₅.unlend
              exact hq _ _ hr₂ v αs₅ h₅ tk₅ R₆ (N₁.trans (nx_lent (fun b hb => Nw.new b hb) N₁₄ N₅)) (V₅.mono z₆ ⟨[], by simp⟩)
          · dsimp only at e
            have hex : r = .ex := by rw [hr₂, e]; rfl
            refine exn_noted (s := { s with heap := h₅, toks := tk₅ }) (c := c.deep wr) I₄.st.fit C.fm g1 g2 g3 X fun h₆ X₆ => ?_
            exact exn_came (s := { s with heap := h₆, toks := tk₅ }) (exn_lent (fun b hb => Nw.new b hb) N₁₄ X₆) fun h₇ X₇ => hx₁ hex true x h₇ tk₅ X₇
        · exact bind_many hm hb
        · obtain ⟨v, rfl, h₁⟩ := h₁
          exact h₁
    · obtain rfl : i = ds.length := by omega
      rw [List.drop_length] at hr₂
      simp only [goes] at hr₂
      refine wpAny_mono (IS.done _ (fun s₁ => Q .next s₁) _ S₂ fun h₃ tk₃ k₃ => ?_) (fun r' s₁ h₁ => ?_) fun _ _ e => e
      · exact hq _ _ hr₂ αs₂ h₃ tk₃ (Inv.unlend I₁ I₂ wrF wrO (fun b hb => (wrA b hb).2.1) k₃) (N₁.trans (nx_touch (fun b hb => Nw.new b hb) (fun b hb => (wrA b hb).2.1) N₂ k₃))
      · obtain ⟨rfl, h₁⟩ := h₁
        exact wpAny_execs_nil h₁
  · refine ⟨0, vs, αs₁, σ₁, h', tk, rfl, rfl, Nat.zero_le _, I₁.lendL Nw, ?_, hS, Nw.zl, by rw [List.drop_zero]; exact hr⟩
    exact Nx.keep kp
end
section
variable {n : Nat} {lf : Addr} {Fo : Orc} {c : Cx} {fr fr₂ wr : List Addr} {sc sc' : Scope} {tb tb' : List (Str × Nat)} {env cenv : Env} {vs vs₀ : Vs} {αs αs' αs'' αs₀ αs₁ αs₂ : List (Addr × Addr)} {σ σ' σ'' σ₀ σ₁ σ₂ : Sg} {s : Shared} {h h₁ h₂ h₃ h' h'' : Heap}
theorem name_lf {A : Around} (C : Cok n lf c) (hk : env.scope.kind = .function) (hg : env.globals = mainGlobals) (G : Gk sc env) {g : Nat} (ok : okG c.T sc g = true) (hn : c.T.gn g = ("LowerFault" : Str)) {p : Pos} {Q : Value → Shared → Prop} {E : Value → Shared → Prop}
    (hb : ∀ a o, c.b₀.get? a = some o → s.heap.get? a = some o) (h : Q (.ref lf) s) : wpAny (model c.prog c.w) A (eval (.Name (c.T.gn g) p) env) Q E s := by
  obtain ⟨o1, o2⟩ := okG_split ok
  obtain ⟨mg, h1, h2⟩ := C.wd.lfN
  refine Name_function_global hk (G _ o1) ?_ o2
  exact loadGlobal_global (mg := mg) (by rw [hg]; exact h1.keeps hb) (by rw [hn]; exact h2) h
theorem sound_raise {x : X} (H : SoundX n lf Fo x) (g : Nat) (pg pc p : Pos) : SoundS n lf Fo (.raise g pg x pc p) := by
  intro c C fr sc tb env vs αs σ s Q E I G W ok hn hq hx
  simp only [q_okS_10, Bool.and_eq_true, beq_iff_eq] at ok
  obtain ⟨⟨okg, okn⟩, okx⟩ := ok
  simp only [q_exS_10] at hn hq hx
  simp only [q_sE_10]
  refine C.wd.raise c.A env (c.T.gn g) pg pc p (xE c.T tb x) s E Q C.rm.hd (by have := C.rm.dp; omega) (star1 (ok_not_dead okx)) ?_
  refine name_lf C I.ek.kind I.ek.glob G okg okn I.st.base ⟨rfl, ?_⟩
  refine H.run C I G okx rfl hn hx (fun V σ₁ v αs₁ h₁ t₁ hr I₁ N₁ R₁ hx₁ => ?_)
  rw [hr] at hn hx₁
  cases V with
  | o k => exact absurd rfl hn
  | d y =>
    cases y with
    | str z =>
      obtain ⟨t, rfl⟩ := Rd.str R₁
      refine ⟨⟨z, t, rfl⟩, I₁.st.base, fun h' tk e kp hne hex => ?_⟩
      obtain ⟨d, tt, he⟩ := hex
      refine hx₁ rfl false e h' tk ⟨fun b o _ q => kp b o q, fun b _ o q => ⟨⟨o.slots, kp b o q⟩, fun _ => kp b o q⟩, ?_, fun o ho => ?_, ?_, _, _, he, rfl, rfl, by simp, .inl ⟨rfl, rfl⟩⟩
      · refine ff_of I₁.st.ff fun L hL => ?_
        obtain ⟨_, o, ho, hd⟩ := I₁.st.ff.mem hL
        exact ⟨o, kp _ _ ho, hd⟩
      · have ho' : h₁.get? e = some o := ho
        have hne' : h₁.get? e = none := hne
        rw [hne'] at ho'; cases ho'
      · cases q : c.b₀.get? e with
        | none => rfl
        | some o =>
          have := I₁.st.base e o q
          have hne' : h₁.get? e = none := hne
          rw [hne'] at this; cases this
    | _ => exact absurd rfl hn
theorem sound_try {x : X} {a : SL} (Ha : SoundL n lf Fo a) (g : Nat) (pg pr ph p : Pos) : SoundS n lf Fo (.try_ a g pg x pr ph p) := by
  intro c C fr sc tb env vs αs σ s Q E I G W ok hn hq hx
  simp only [q_okS_11, Bool.and_eq_true, beq_iff_eq] at ok
  obtain ⟨⟨⟨oka, okg⟩, okn⟩, okx⟩ := ok
  simp only [q_exS_11] at hn hq hx
  simp only [q_sE_11]
  obtain ⟨e₀, outer, L, g1, g2, g3⟩ := I.ek.frame
  refine wpAny_Try_except (Ha c C fr sc tb env vs αs σ s _ _ I G W oka (fun e => by rw [e] at hn; exact hn rfl) (fun fl σ' e => ?_) (fun e nt x' h' tk X => ?_))
  · rw [e] at hq
    have q := hq fl σ' rfl
    cases fl with
    | next vs' => exact fun αs' h' tk I' N' => wpAny_execs_nil (q αs' h' tk I' N')
    | ret V => exact q
  · rw [e] at hn hq
    simp only at hn hq
    split at hn
    · simp only at hq
      have q := hq _ _ rfl
      have hα : αs = [] := List.eq_nil_of_length_eq_zero I.st.len
      subst hα
      refine exn_note (s := { s with heap := h', toks := tk }) I.st.fit C.fm g1 g2 g3 X fun h₁ X₁ => ?_
      refine exn_flight (s := { s with heap := h₁, toks := tk }) X₁ fun h₂ X₂ => ?_
      have base : ∀ {h : Heap} {nt : Bool}, Exn c lf (Wl c fr [] []) s.heap nt x' h → ∀ b o, c.b₀.get? b = some o → h.get? b = some o := fun X b o e => by
        obtain ⟨e1, e2⟩ := I.st.fit.base b o e
        exact X.fz b o e2 e1
      refine wpAny_handleBy_cons (codeAny_handlers_test ?_) (by intro q; cases q)
      refine name_lf (s := { s with heap := h₂, toks := tk }) C I.ek.kind I.ek.glob G okg okn (base X₂) ?_
      obtain ⟨oe, vs', h3, h4, _⟩ := X₂.ex
      refine C.wd.catch_ _ { s with heap := h₂, toks := tk } x' _ _ (base X₂) ⟨oe, h3, h4⟩ ?_
      refine codeAny_handlers_suite (exn_flight (s := { s with heap := h₂, toks := tk }) X₂ fun h₃ X₃ => ?_)
      refine wpAny_execs_cons (wpAny_Return_some ?_)
      simp only [q_xE_0]
      refine wpAny_Constant_none ?_
      refine q .none [] h₃ tk ⟨rfl, fun k p cl e => by simp at e, fun j k p q cl dl _ e => by simp at e, fun k p cl e => by simp at e, base X₃, X₃.ff⟩ ⟨fun b o hb e => ⟨X₃.fz b o hb e, hb⟩, fun b hb o e => X₃.am b hb o e, [], rfl⟩ rd_none
    · exact absurd rfl hn
mutual
theorem sS (O : OrcOK n lf Fo) : ∀ st : S, SoundS n lf Fo st
  | .asg i live pi (.comp elt tg sk x y ifs tb sc q) p => sound_asg_comp (sX O x) (sX O y) (sX O elt) (sTC O ifs) i pi p
  | .asg i live pi (.cst k m q) p => sound_asg_plain (sX O _) (sN O _) rfl i pi p
  | .asg i live pi (.var j q) p => sound_asg_plain (sX O _) (sN O _) rfl i pi p
  | .asg i live pi (.glb g q) p => sound_asg_plain (sX O _) (sN O _) rfl i pi p
  | .asg i live pi (.tup xs k q) p => sound_asg_plain (sX O _) (sN O _) rfl i pi p
  | .asg i live pi (.lst xs q) p => sound_asg_plain (sX O _) (sN O _) rfl i pi p
  | .asg i live pi (.dsp ks xs q) p => sound_asg_plain (sX O _) (sN O _) rfl i pi p
  | .asg i live pi (.call g pn xs q) p => sound_asg_plain (sX O _) (sN O _) rfl i pi p
  | .asg i live pi (.bcall b g pn x q) p => sound_asg_plain (sX O _) (sN O _) rfl i pi p
  | .asg i live pi (.meth e a pa xs q) p => sound_asg_plain (sX O _) (sN O _) rfl i pi p
  | .asg i live pi (.attr e a q) p => sound_asg_plain (sX O _) (sN O _) rfl i pi p
  | .asg i live pi (.sub e j q) p => sound_asg_plain (sX O _) (sN O _) rfl i pi p
  | .asg i live pi (.slc e lo hi ps q) p => sound_asg_plain (sX O _) (sN O _) rfl i pi p
  | .asg i live pi (.cmp op a b q) p => sound_asg_plain (sX O _) (sN O _) rfl i pi p
  | .asg i live pi (.chn a ops xs q) p => sound_asg_plain (sX O _) (sN O _) rfl i pi p
  | .asg i live pi (.bop op xs q) p => sound_asg_plain (sX O _) (sN O _) rfl i pi p
  | .asg i live pi (.bnot e q) p => sound_asg_plain (sX O _) (sN O _) rfl i pi p
  | .asg i live pi (.ife t a b q) p => sound_asg_plain (sX O _) (sN O _) rfl i pi p
  | .asg i live pi (.bin op a b q) p => sound_asg_plain (sX O _) (sN O _) rfl i pi p
  | .asg i live pi (.neg e q) p => sound_asg_plain (sX O _) (sN O _) rfl i pi p
  | .asg i live pi (.dead e) p => sound_asg_plain (sX O _) (sN O _) rfl i pi p
  | .asg2 i j pi pj k pt x y k' pv p => sound_asg2 (sN O x) (sN O y) i j pi pj k pt k' pv p
  | .unp is k pt x p => sound_unp (sX O x) is k pt p
  | .sat e a live pa x p => sound_sat (sX O e) (sX O x) (sN O x) a pa p
  | .sit e i ps x p => sound_sit (sX O e) (sX O i) (sX O x) ps p
  | .xpr x p => sound_xpr (sX O x) p
  | .iff t a b p => sound_iff (sT O t) (sL O a) (sL O b) p
  | .whl t a p => sound_whl (sT O t) (sL O a) p
  | .for_ tg sk x y a p => sound_for (sX O x) (sX O y) (sL O a) p
  | .ret x p => sound_ret (sX O x) p
  | .raise g pg x pc p => sound_raise (sX O x) g pg pc p
  | .try_ a g pg x pr ph p => sound_try (sL O a) g pg pr ph p
  | .dead s => by
    intro c C fr sc tb env vs αs σ s Q E I G W ok
    simp [q_okS_12] at ok
theorem sL (O : OrcOK n lf Fo) : ∀ st : SL, SoundL n lf Fo st
  | .nil => sound_L_nil
  | .cons s r => sound_L_cons (sS O s) (sL O r)
end
end
theorem bindL_other {kindOf : Str → Option NameKind} {nm : Str} : ∀ {l : List (Str × Value)} {m : Str → Option Value}, (∀ p ∈ l, p.1 ≠ nm) → bindL kindOf l m nm = m nm
  | [], _, _ => rfl
  | (n, v) :: r, m, h => by
    unfold bindL
    rw [bindL_other (fun p hp => h p (.tail _ hp))]
    split
    · exact if_neg (fun q : nm = n => h (n, v) (.head _) q.symm)
    · rfl
theorem bindC_other {kindOf : Str → Option NameKind} {nm : Str} : ∀ {l : List (Str × Value)} {m : Str → Option Value}, (∀ p ∈ l, p.1 ≠ nm) → bindC kindOf l m nm = m nm
  | [], _, _ => rfl
  | (n, v) :: r, m, h => by
    unfold bindC
    rw [bindC_other (fun p hp => h p (.tail _ hp))]
    split
    · rfl
    · exact if_neg (fun q : nm = n => h (n, v) (.head _) q.symm)
theorem bindL_get {kindOf : Str → Option NameKind} {nm : Str} (hk : kindOf nm = some .local) : ∀ {ns : List Str} {vs : List Value} {m : Str → Option Value} {i : Nat} {v : Value}, ns.Nodup → ns[i]? = some nm → vs[i]? = some v → bindL kindOf (ns.zip vs) m nm = some v
  | [], _, _, _, _, _, h, _ => by simp at h
  | _ :: _, [], _, _, _, _, _, h => by simp at h
  | n :: ns, u :: vs, m, 0, v, hd, h1, h2 => by
    simp only [List.getElem?_cons_zero, Option.some.injEq] at h1 h2
    subst h1 h2
    rw [List.zip_cons_cons]
    unfold bindL
    rw [if_pos hk, bindL_other (fun p hp (q : p.1 = n) => (List.nodup_cons.mp hd).1 (by rw [← q]; exact (List.of_mem_zip hp).1))]
    exact if_pos rfl
  | n :: ns, u :: vs, m, i + 1, v, hd, h1, h2 => by
    rw [List.zip_cons_cons]
    unfold bindL
    exact bindL_get hk (List.nodup_cons.mp hd).2 (by simpa using h1) (by simpa using h2)
theorem bindC_get {kindOf : Str → Option NameKind} {nm : Str} (hk : kindOf nm ≠ some .local) : ∀ {ns : List Str} {vs : List Value} {m : Str → Option Value} {i : Nat} {v : Value}, ns.Nodup → ns[i]? = some nm → vs[i]? = some v → bindC kindOf (ns.zip vs) m nm = some v
  | [], _, _, _, _, _, h, _ => by simp at h
  | _ :: _, [], _, _, _, _, _, h => by simp at h
  | n :: ns, u :: vs, m, 0, v, hd, h1, h2 => by
    simp only [List.getElem?_cons_zero, Option.some.injEq] at h1 h2
    subst h1 h2
    rw [List.zip_cons_cons]
    unfold bindC
    rw [if_neg hk, bindC_other (fun p hp (q : p.1 = n) => (List.nodup_cons.mp hd).1 (by rw [← q]; exact (List.of_mem_zip hp).1))]
    exact if_pos rfl
  | n :: ns, u :: vs, m, i + 1, v, hd, h1, h2 => by
    rw [List.zip_cons_cons]
    unfold bindC
    exact bindC_get hk (List.nodup_cons.mp hd).2 (by simpa using h1) (by simpa using h2)
structure OkFn (sc : Scope) (fn : Fn) : Prop where
  nodup : nodupTb fn.tb = true
  np : fn.np ≤ fn.tb.length
  k0 : ∀ (i : Nat) (nm : Str), fn.tb[i]? = some (nm, 0) → fn.np ≤ i
  k1 : ∀ (i : Nat) (nm : Str), fn.tb[i]? = some (nm, 1) → sc.names.lookup nm = some .local
  k2 : ∀ (i : Nat) (nm : Str), fn.tb[i]? = some (nm, 2) → sc.names.lookup nm = some .cell
  k : ∀ (i : Nat) (nm : Str) (k : Nat), fn.tb[i]? = some (nm, k) → k = 0 ∨ k = 1 ∨ k = 2
theorem okFn_of {sc : Scope} {fn : Fn} (h : okFn sc fn = true) : OkFn sc fn := by
  unfold okFn at h
  simp only [Bool.and_eq_true, decide_eq_true_eq, List.all_eq_true] at h
  obtain ⟨⟨h1, h2⟩, h3⟩ := h
  have at_i : ∀ (i : Nat) (nm : Str) (k : Nat), fn.tb[i]? = some (nm, k) → (((k == 0 && decide (fn.np ≤ i)) || (k == 1 && decide (sc.names.lookup nm = some .local))) || (k == 2 && decide (sc.names.lookup nm = some .cell))) = true := by
    intro i nm k e
    have := h3 i (List.mem_range.mpr (List.getElem?_eq_some_iff.mp e).1)
    rw [e] at this
    exact this
  refine ⟨h1, h2, fun i nm e => by simpa using at_i i nm 0 e, fun i nm e => by simpa using at_i i nm 1 e, fun i nm e => by simpa using at_i i nm 2 e, fun i nm k e => ?_⟩
  have := at_i i nm k e
  simp only [Bool.or_eq_true, Bool.and_eq_true, beq_iff_eq] at this
  rcases this with (h | h) | h
  · exact .inl h.1
  · exact .inr (.inl h.1)
  · exact .inr (.inr h.1)
section
variable {n : Nat} {lf : Addr} {Fo : Orc} {c : Cx} {fr fr₂ wr : List Addr} {sc sc' : Scope} {tb tb' : List (Str × Nat)} {env cenv : Env} {vs vs₀ : Vs} {αs αs' αs'' αs₀ αs₁ αs₂ : List (Addr × Addr)} {σ σ' σ'' σ₀ σ₁ σ₂ : Sg} {s : Shared} {h h₁ h₂ h₃ h' h'' : Heap}
noncomputable abbrev Cx.called (c : Cx) (env : Env) : Cx := { c with A := c.A.deeper env, frs := env :: c.frs }
theorem CellR.called {z : Heap} {p : Addr × Addr} {cl : Cell} (r : CellR c h z αs p cl) : CellR (c.called env) h z αs p cl := by cases cl <;> exact r
theorem CellR.uncalled {z : Heap} {p : Addr × Addr} {cl : Cell} (r : CellR (c.called env) h z αs p cl) : CellR c h z αs p cl := by cases cl <;> exact r
theorem Cok.called (C : CokO (n + 1) lf c) (env : Env) : Cok n lf (c.called env) := by
  refine ⟨⟨C.hd, C.gu, by have := C.dp; show c.A.depth + 1 + _ + _ ≤ _; omega, by have := C.un; show c.A.units + 3 + _ + _ ≤ _; omega⟩, ?_, ⟨C.wd.kin, C.wd.noLim, C.wd.sys, C.wd.anI, C.wd.clsF, C.wd.noDig, C.wd.glob, C.wd.setF, C.wd.lfN, C.wd.raise, C.wd.catch_, fun f fn e => let ⟨o, fd, F⟩ := C.wd.fns f fn e; ⟨o, fd, F.at_, F.data, F.body, F.clos, F.glob, F.blt, F.kind, F.co, F.gen, F.rec_, F.bind, F.okB, F.okT⟩, C.wd.tabE⟩⟩
  exact Around.frames_deeper C.fm
theorem Rt.home {L : Addr} (S : St c [] αs σ h₁) (hf : env.frame = some L) (hL : h₁.get? L = none) (k : ∀ b o, h₁.get? b = some o → h₂.get? b = some o) (hfr : ∀ a ∈ fr, h₁.get? a = none) (R : Rt (c.called env) fr αs' σ' h₃) (N : Nx (c.called env) fr αs σ h₂ αs' σ' h₃) :
    St c [] αs' σ' h₃ ∧ Nx c [] αs σ h₁ αs' σ' h₃ ∧ ∀ b o, (Fz (Wl (c.called env) fr αs' σ') h₃).get? b = some o → (Fz (Wl c [] αs' σ') h₃).get? b = some o := by
  have sub : ∀ b, b ∈ Wl c [] αs' σ' → b ∈ Wl (c.called env) fr αs' σ' := fun b hb => by
    rcases mem_Wl.mp hb with q | q | q
    · cases q
    · exact mem_Wl.mpr (.inr (.inl q))
    · exact mem_Wl.mpr (.inr (.inr q))
  have z : ∀ b o, (Fz (Wl (c.called env) fr αs' σ') h₃).get? b = some o → (Fz (Wl c [] αs' σ') h₃).get? b = some o := fun b o e => by
    obtain ⟨e1, e2⟩ := fz_iff.mp e
    exact fz_iff.mpr ⟨e1, fun q => e2 (sub b q)⟩
  have frL : ∀ b, b ∈ (c.called env).frs.filterMap (·.frame) → b = L ∨ b ∈ c.frs.filterMap (·.frame) := fun b hb => by
    rw [List.filterMap_cons, hf] at hb
    exact List.mem_cons.mp hb
  have N' : Nx c [] αs σ h₁ αs' σ' h₃ := by
    refine ⟨fun b o hb e => ?_, fun b hb o e => ?_, N.ext⟩
    · have hb' : b ∉ Wl (c.called env) fr αs σ := fun q => by
        rcases mem_Wl.mp q with q | q | q
        · rw [hfr b q] at e; cases e
        · exact hb (mem_Wl.mpr (.inr (.inl q)))
        · exact hb (mem_Wl.mpr (.inr (.inr q)))
      obtain ⟨e1, e2⟩ := N.fz b o hb' (k _ _ e)
      exact ⟨e1, fun q => e2 (sub b q)⟩
    · obtain ⟨e1, e2⟩ := N.am b hb o (k _ _ e)
      exact ⟨e1, fun hn => e2 fun q => (frL b q).elim (fun q => by rw [q, hL] at e; cases e) hn⟩
  refine ⟨⟨R.len, fun i p cl e1 e2 => ?_, R.ap1, fun i p cl e1 e2 a ha => ?_, fun a ha => (by cases ha), S.ap4, R.base, R.ff.2.2, S.frin, fun a ha => ?_⟩, N', z⟩
  · exact ((R.cell i p cl e1 e2).keep z (fun a _ o e => e) ⟨[], by simp⟩).uncalled
  · obtain ⟨_, y, w⟩ := R.ap2 i p cl e1 e2 a ha
    exact ⟨fun q => (by cases q), y, w⟩
  · rcases ha with ha | ha
    · cases ha
    · obtain ⟨o, e⟩ := S.thr a (.inr ha)
      obtain ⟨⟨sl, e1⟩, _⟩ := N'.am a ha o e
      exact ⟨_, e1⟩
theorem Exn.home {L : Addr} {e : Addr} {nt : Bool} (hf : env.frame = some L) (hL : h₁.get? L = none) (k : ∀ b o, h₁.get? b = some o → h₂.get? b = some o) (hfr : ∀ a ∈ fr, h₁.get? a = none) (X : Exn (c.called env) lf (Wl (c.called env) fr αs σ) h₂ nt e h₃) : Exn c lf (Wl c [] αs σ) h₁ nt e h₃ := by
  have frL : ∀ b, b ∈ (c.called env).frs.filterMap (·.frame) → b = L ∨ b ∈ c.frs.filterMap (·.frame) := fun b hb => by
    rw [List.filterMap_cons, hf] at hb
    exact List.mem_cons.mp hb
  have un : ∀ {x : Addr}, Un (c.called env) (Wl (c.called env) fr αs σ) h₂ x → Un c (Wl c [] αs σ) h₁ x := fun {x} u o ho => by
    obtain ⟨u1, u2⟩ := u o (k _ _ ho)
    refine ⟨?_, u2⟩
    rcases mem_Wl.mp u1 with q | q | q
    · rw [hfr x q] at ho; cases ho
    · exact mem_Wl.mpr (.inr (.inl q))
    · exact mem_Wl.mpr (.inr (.inr q))
  refine ⟨fun b o hb q => X.fz b o (fun hm => ?_) (k _ _ q), fun b hb o q => ?_, X.ff.2.2, un X.un, X.base, ?_⟩
  · rcases mem_Wl.mp hm with q' | q' | q'
    · rw [hfr b q'] at q; cases q
    · exact hb (mem_Wl.mpr (.inr (.inl q')))
    · exact hb (mem_Wl.mpr (.inr (.inr q')))
  · obtain ⟨e1, e2⟩ := X.am b hb o (k _ _ q)
    exact ⟨e1, fun hn => e2 fun q' => (frL b q').elim (fun q' => by rw [q', hL] at q; cases q) hn⟩
  · obtain ⟨oe, vs, a1, a2, a3, a4, a5⟩ := X.ex
    refine ⟨oe, vs, a1, a2, a3, a4, ?_⟩
    rcases a5 with a5 | ⟨T, oT, ts, b1, b2, b3, b4, b5, b6, b7⟩
    · exact .inl a5
    · exact .inr ⟨T, oT, ts, b1, b2, b3, b4, b5, un b6, b7⟩
theorem getV_args {as : List V} {m i : Nat} {W : V} (h : getV (as.map some ++ List.replicate m none) i = some W) : as[i]? = some W := by
  unfold getV at h
  by_cases hi : i < as.length
  · rw [List.getElem?_append_left (by simpa using hi), List.getElem?_map] at h
    cases q : as[i]? with
    | none => rw [q] at h; cases h
    | some x => rw [q] at h; simpa using h
  · rw [List.getElem?_append_right (by simpa using Nat.not_lt.mp hi)] at h
    have : ∀ j, ((List.replicate m (none : Option V))[j]?).join = none := fun j => by
      rw [List.getElem?_replicate]
      split <;> rfl
    rw [this] at h; cases h
theorem orc_run : ∀ n : Nat, OrcOK n lf (runN tab fns n)
  | 0 => by
    intro c C αs σ s f as us R S Rs hn
    exact absurd rfl hn
  | n + 1 => by
    intro c C αs σ s f as us R S Rs hn hq hx
    have O := orc_run n
    simp only [runN] at hn hq hx
    cases hf : fns[f]? with
    | none => rw [hf] at hn; exact absurd rfl hn
    | some fn =>
      rw [hf] at hn hq hx
      simp only [runFn] at hn hq hx
      by_cases hlen : as.length = fn.np
      · simp only [hlen, if_true] at hn hq hx
        obtain ⟨hT, hfs⟩ := C.wd.tabE
        obtain ⟨o, fd, F⟩ := C.wd.fns f fn (by rw [hfs]; exact hf)
        have K := okFn_of F.okT
        have husl : us.length = fn.np := Rs.1.trans hlen
        have hat := S.base _ _ F.at_
        generalize hLs : s.heap.objs.size = L
        have hfL : s.heap.get? L = none := hLs ▸ fresh
        -- the names bound
        have hpn : ∀ x ∈ ((fn.tb.take fn.np).map (·.1)).zip us, ∃ (i : Nat) (k : Nat), fn.tb[i]? = some (x.1, k) ∧ (k = 1 ∨ k = 2) := by
          intro x hx
          have h1 := (List.of_mem_zip hx).1
          obtain ⟨q, hq, e⟩ := List.mem_map.mp h1
          obtain ⟨i, hi⟩ := List.getElem?_of_mem hq
          rw [List.getElem?_take] at hi
          split at hi
          · rename_i hlt
            obtain ⟨a, k⟩ := q
            simp only at e; subst e
            refine ⟨i, k, hi, ?_⟩
            rcases K.k i _ k hi with rfl | h | h
            · have := K.k0 i _ hi; omega
            · exact .inl h
            · exact .inr h
          · cases hi
        have hroom : c.A.depth < recursionLimit := by
          have h1 := C.dp
          have h2 : recursionLimit = 1000 := by decide +kernel
          rw [h2]; omega
        refine codeAny_call_cells (vals := us) (hco := F.co) (hgen := F.gen) (hk := F.kind) hroom hat F.data ?_ ?_ F.body (F.bind us husl) F.clos (fun x hx => ?_) (fun s₁ X => ?_)
        · exact C.wd.noLim.keeps S.base
        · obtain h := F.rec_
          exact h.keeps S.base
        · obtain ⟨i, k, hi, rfl | rfl⟩ := hpn x hx
          · exact .inl (K.k1 i _ hi)
          · exact .inr ⟨K.k2 i _ hi, cellsFrom_some _ _ _ (.inl (K.k2 i _ hi))⟩
        · rw [hLs] at X ⊢
          generalize hen : callEnvC fd L (c.fa f) = env at X ⊢
          have eloc : env.locals = L := by rw [← hen]; rfl
          have ecel : env.cells = cellsFrom (L + 1) fd.scope.names [] := by rw [← hen]; rfl
          have efr : env.frame = some L := by rw [← hen]; rfl
          have ekn : ∀ nm, env.kindOf nm = fd.scope.names.lookup nm := fun nm => by rw [← hen]; rfl
          have esc : env.scope = fd.scope := by rw [← hen]; rfl
          obtain ⟨⟨⟨h₂, tk₂, rfl⟩, hns, hkeep, hfresh⟩, hcell, hapart, habove⟩ := X
          dsimp only at hns hkeep hfresh hcell
          have cfresh : ∀ nm a, (nm, a) ∈ env.cells → s.heap.get? a = none ∧ a ≠ L := fun nm a hm => by
            have := habove nm a hm
            rw [eloc] at this
            exact ⟨Heap.get?_none_of_le (by rw [hLs]; exact Nat.le_of_lt this), Nat.ne_of_gt this⟩
          generalize hfr : L :: (env.cells.filter fun p => decide (env.cells.lookup p.1 = some p.2)).map (·.2) = fr
          have hfrm : ∀ a, a ∈ fr → a = L ∨ ∃ nm, env.cells.lookup nm = some a := fun a ha => by
            rw [← hfr] at ha
            rcases List.mem_cons.mp ha with rfl | ha
            · exact .inl rfl
            · obtain ⟨⟨nm, b⟩, hb, rfl⟩ := List.mem_map.mp ha
              exact .inr ⟨nm, by simpa using (List.mem_filter.mp hb).2⟩
          have hfrc : ∀ nm a, env.cells.lookup nm = some a → a ∈ fr := fun nm a e => by
            rw [← hfr]
            exact List.mem_cons_of_mem _ (List.mem_map.mpr ⟨(nm, a), List.mem_filter.mpr ⟨PySem.mem_of_lookup e, by simpa using e⟩, rfl⟩)
          have hfrL : L ∈ fr := by rw [← hfr]; exact .head _
          have Nw : Newer fr s.heap h₂ := by
            refine ⟨fun a ha => ?_, fun a ha => ?_, hkeep⟩
            · rcases hfrm a ha with rfl | ⟨nm, e⟩
              · exact hfL
              · exact (cfresh nm a (PySem.mem_of_lookup e)).1
            · rcases hfrm a ha with rfl | ⟨nm, e⟩
              · obtain ⟨o, _, _, e, _⟩ := hns; rw [eloc] at e; exact ⟨o, e⟩
              · obtain ⟨o, e', _⟩ := hcell nm a e; exact ⟨o, e'⟩
          have hnd : ((fn.tb.take fn.np).map (·.1)).Nodup := by
            refine List.pairwise_iff_getElem.mpr fun i j hi hj hij e => ?_
            have at_ : ∀ i (hi : i < ((fn.tb.take fn.np).map (·.1)).length), ∃ k, fn.tb[i]? = some (((fn.tb.take fn.np).map (·.1))[i], k) ∧ k ≠ 0 := fun i hi => by
              have hi' := hi
              simp only [List.length_map, List.length_take] at hi'
              have hlt : i < fn.np := by omega
              have hlt2 : i < fn.tb.length := by omega
              refine ⟨(fn.tb[i]).2, ?_, fun h0 => ?_⟩
              · rw [List.getElem?_eq_getElem hlt2]; simp
              · have := K.k0 i (fn.tb[i]).1 (by rw [List.getElem?_eq_getElem hlt2, ← h0])
                omega
            obtain ⟨k, e1, k1⟩ := at_ i hi
            obtain ⟨k', e2, k2⟩ := at_ j hj
            rw [← e] at e2
            exact Nat.ne_of_lt hij (nodup_inj K.nodup i j _ k k' e1 e2 k1 k2)
          have S₂ : St (c.called env) fr αs σ h₂ := by
            have S1 := S.enter Nw
            refine ⟨S1.len, fun k p cl e1 e2 => (CellR.called (c := c) (S1.cell k p cl e1 e2)), S1.ap1, S1.ap2, S1.ap3, S1.ap4, S1.base, ?_, fun M hM => ?_, S1.thr⟩
            · exact Heap.FunFrames.cons (by rw [esc, F.kind]; decide) efr (eloc ▸ hns) (by
                cases q : c.b₀.get? L with
                | none => rfl
                | some o => have := S.base L o q; rw [hfL] at this; cases this) S1.ff
            · rw [List.filterMap_cons, efr] at hM
              rcases List.mem_cons.mp hM with rfl | hM
              · exact .inl hfrL
              · exact S1.frin M hM
          have I₂ : Inv (c.called env) fr fn.tb env (as.map some ++ List.replicate (fn.tb.length - fn.np) none) αs σ h₂ := by
            refine ⟨S₂, ⟨by rw [esc]; exact F.kind, by rw [← hen]; exact F.glob, by rw [← hen]; exact F.blt, ⟨env, c.frs, L, rfl, efr, efr⟩, fun i nm e => by rw [ekn]; exact K.k1 i nm e, fun i nm e => by rw [ekn]; exact K.k2 i nm e, nodup_inj K.nodup, .inl (eloc ▸ hfrL), fun nm a e => ⟨.inl (hfrc nm a e), by rw [eloc]; exact (cfresh nm a (PySem.mem_of_lookup e)).2⟩, fun x y a e1 e2 => name_of_addr hapart (PySem.mem_of_lookup e1) (PySem.mem_of_lookup e2)⟩, ⟨_, hns, fun i nm V e g => ?_⟩, fun i nm e => ?_⟩
            · have hg := getV_args g
              obtain ⟨u, e1, e2⟩ := Rs.2 i V hg
              have hi : i < fn.np := by rw [← hlen]; exact (List.getElem?_eq_some_iff.mp hg).1
              refine ⟨u, bindL_get (by rw [ekn]; exact K.k1 i nm e) hnd (i := i) ?_ e1, e2.mono (fun b o q => Nw.z (c := c) (fr := []) b o q |> fun z => ?_) ⟨[], by simp⟩⟩
              · rw [List.getElem?_map, List.getElem?_take, if_pos hi, e]; rfl
              · exact z
            · have hl := cellsFrom_some fd.scope.names (L + 1) [] (.inl (K.k2 i nm e))
              rw [← ecel] at hl
              obtain ⟨a, ha⟩ := Option.isSome_iff_exists.mp hl
              refine ⟨a, _, ha, hcell nm a ha, fun V g => ?_⟩
              have hg := getV_args g
              obtain ⟨u, e1, e2⟩ := Rs.2 i V hg
              have hi : i < fn.np := by rw [← hlen]; exact (List.getElem?_eq_some_iff.mp hg).1
              refine ⟨u, bindC_get (by rw [ekn, K.k2 i nm e]; decide) hnd (i := i) ?_ e1, e2.mono (fun b o q => Nw.z (c := c) (fr := []) b o q |> fun z => ?_) ⟨[], by simp⟩⟩
              · rw [List.getElem?_map, List.getElem?_take, if_pos hi, e]; rfl
              · exact z
          have G₂ : Gk fd.scope env := fun nm e => by rw [ekn]; exact e
          have C₂ : Cok n lf (c.called env) := Cok.called C env
          rw [show tab = c.T from hT.symm] at hn hq hx
          have HL := sL O fn.body
          rw [show tab = c.T from hT.symm] at HL
          refine HL (c.called env) C₂ fr fd.scope fn.tb env _ αs σ { s with heap := h₂, toks := tk₂ } _ _ I₂ G₂ ⟨eloc ▸ hfrL, hfrc⟩ F.okB (bind_ok rfl hn) (fun fl σ' e => ?_) (fun e nt x h' tk X => ?_)
          · dsimp only at e
            rw [e, ok_bind] at hq
            cases fl with
            | next vs' =>
              intro αs' h' tk I' N'
              obtain ⟨S₃, N₃, z₃⟩ := Rt.home S efr hfL hkeep Nw.new I'.st.rt N'
              exact hq _ _ rfl .none αs' h' tk S₃ N₃ rd_none
            | ret V =>
              intro v αs' h' tk R' N' V'
              obtain ⟨S₃, N₃, z₃⟩ := Rt.home S efr hfL hkeep Nw.new R' N'
              exact hq _ _ rfl v αs' h' tk S₃ N₃ (V'.mono z₃ ⟨[], by simp⟩)
          · dsimp only at e
            refine exn_leave (s := { s with heap := h', toks := tk }) (c := c.called env) S₂.fit C₂.fm rfl efr efr X fun h₃ X₃ => ?_
            exact hx (by rw [e]; rfl) true x h₃ tk (Exn.home efr hfL hkeep Nw.new X₃)
      · simp only [hlen, if_false] at hn
        exact absurd rfl hn
end
section
variable {prog : Program} {w : World} {A : Around} {E : Value → Shared → Prop} {R : Result → Shared → Prop} {h : Heap} {g : Array GenState} {d : Drawn} {tk : Nat} {os : OsState}
variable {nm q : Str} {C N : Addr} {bs bm bmB : List Value} {hdct : Bool} {sn : List Str} {sub : List Value} {ab : Bool} {col : Option Bool} {dd : Option Addr} {k0 k1 k2 k3 k5 : Option Value} {B newId initId : String}
structure Tail (B : String) (bm : List Value) : Prop where
  b : bm.contains (.type B) = true
  base : bm.contains (.type "BaseException") = true
  attr : bm.contains (.type "AttributeError") = false
  name : bm.contains (.type "NameError") = false
theorem Tail.me {X : String} {v : Bool} (hc : bm.contains (.type X) = v) : (Value.ref C :: bm).contains (.type X) = v := by
  rw [List.contains_cons, hc]; rfl
theorem rz_check (F : ExcBaseFacts B newId initId bmB) (T : Tail B bm) {M : Model} {rest : List Value} {Q : Unit → Shared → Prop} (hC : h.get? C = some (excClassObj nm q C N bs bm hdct sn sub ab col dd k0 k1 k2 k3 k5 newId))
    (hq : Q () ⟨h, g, d, tk, os⟩) : wpAny M A (checkBuiltinCall newId ⟨.ref C :: rest, []⟩) Q E ⟨h, g, d, tk, os⟩ := by
  have hcont := Tail.me (C := C) T.b
  have hstar := F.noStar
  simp only [checkBuiltinCall, F.newKind, F.newSplit, F.newRow]
  repeat (first | refine wpAny_loadPart_at hC ?_ | (refine wpAny_isSubtype_exc hC ?_; rw [hcont]) | refine wpAny_staticBase_exc hC ?_ | refine wpAny_madeBy_exc hC ?_ | simp only [bne_self_eq_false, Bool.false_eq_true, if_false] | wp_step)
  exact hq
theorem rz_new (F : ExcBaseFacts B newId initId bmB) (T : Tail B bm) {rest : List Value} (hC : h.get? C = some (excClassObj nm q C N bs bm hdct sn sub ab col dd k0 k1 k2 k3 k5 newId))
    (hq : R (.ok (.ret (.ref (h.objs.size + 1)))) ⟨(h.push { cls := .type "tuple", data := .seq rest.toArray }).push
      { cls := .ref C, data := .fields #[.ref h.objs.size, .none, .none, .none, .bool false, .none] }, g, d, tk, os⟩) (hrest : rest.length ≤ sizeLine) :
    codeAny (model prog w) A (.builtin newId ⟨.ref C :: rest, []⟩) R ⟨h, g, d, tk, os⟩ := by
  have hends := F.ends
  have hcB := Tail.me (C := C) T.b
  have hcA := Tail.me (C := C) T.attr
  have hcN := Tail.me (C := C) T.name
  refine codeAny_builtinAt F.entry ?_
  unfold Builtin.«BaseException.__new__»
  refine PySem.wpAt_bind ?_
  show PySem.wpAt _ _ _ (stack >>= _) _ _ _
  refine PySem.wpAt_bind (PySem.wpAt_stack fun p below => PySem.wpAt_of_wpAny ?_)
  wp_walk
  refine PySem.wpAt_of_wpAny ?_
  rw [F.owner]
  repeat (first | with_reducible refine wpAny_madeHere_exc F.canon hC ?_ | with_reducible refine wpAny_loadPart_at hC ?_ | (with_reducible refine wpAny_isSubtype_exc hC ?_; first | rw [hcB] | rw [hcA] | rw [hcN]) | wp_step)
  show R _ _
  rw [Heap.size_push]
  exact hq
structure Two (h : Heap) (C N Rr : Addr) (nm q : Str) (bs : List Value) (bmB : List Value) (sn : List Str) (sub : List Value) (ab : Bool) (col : Option Bool) (dd : Option Addr) (k0 k1 k2 k3 k5 : Option Value) (newId : String) (mN mR : Str → Option Value) : Prop where
  hC : h.get? C = some (excClassObj nm q C N bs (.ref Rr :: bmB) true sn sub ab col dd k0 k1 k2 k3 k5 newId)
  hn : h.Ns N mN
  hR : ∃ c0 d0 cd sl, h.get? Rr = some { cls := c0, dict := d0, data := .cls cd, slots := sl } ∧ h.Ns cd.ns mR
end
section
variable {prog : Program} {w : World} {A : Around} {E : Value → Shared → Prop} {R : Result → Shared → Prop} {h : Heap} {g : Array GenState} {d : Drawn} {tk : Nat} {os : OsState}
variable {nm q : Str} {C N Rr x : Addr} {bs bmB : List Value} {sn : List Str} {sub : List Value} {ab : Bool} {col : Option Bool} {dd : Option Addr} {k0 k1 k2 k3 k5 : Option Value} {B newId initId sa owner : String} {mN mR mA : Str → Option Value} {name : Str} {v : Value}
theorem Two.keeps {h' : Heap} (T : Two h C N Rr nm q bs bmB sn sub ab col dd k0 k1 k2 k3 k5 newId mN mR) (hk : ∀ b o, h.get? b = some o → h'.get? b = some o) : Two h' C N Rr nm q bs bmB sn sub ab col dd k0 k1 k2 k3 k5 newId mN mR :=
  ⟨hk _ _ T.hC, T.hn.keeps hk, let ⟨c0, d0, cd, sl, e1, e2⟩ := T.hR; ⟨c0, d0, cd, sl, hk _ _ e1, e2.keeps hk⟩⟩
theorem rz_look {M : Model} (T : Two h C N Rr nm q bs bmB sn sub ab col dd k0 k1 k2 k3 k5 newId mN mR) {y : Option Value} {Q : Option Value → Shared → Prop} (hbm : mroOf (.type B) = pure bmB) (hB : typeLookup (.type B) name = pure y) (hN : mN name = none)
    (hq : Q (match mR name with | some v => some v | none => y) ⟨h, g, d, tk, os⟩) : wpAny M A (typeLookup (.ref C) name) Q E ⟨h, g, d, tk, os⟩ := by
  obtain ⟨hC, hn, c0, d0, cd, sl, hR, hnR⟩ := T
  have hrest : lookupAlong bmB name = pure y := by rw [typeLookup_eq, hbm] at hB; exact hB
  rw [typeLookup_eq]
  refine wpAny_bind (wpAny_mroOf_exc hC ?_)
  rw [lookupAlong_cons]
  refine wpAny_bind (wpAny_classOwn_exc hC hn ?_)
  rw [hN]
  show wpAny _ _ (lookupAlong (.ref Rr :: bmB) name) _ _ _
  rw [lookupAlong_cons]
  refine wpAny_bind (wpAny_classOwn_cls hR hnR ?_)
  cases hv : mR name with
  | some v => rw [hv] at hq; exact wpAny_pure hq
  | none =>
    rw [hv] at hq
    show wpAny _ _ (lookupAlong bmB name) _ _ _
    rw [hrest]; exact wpAny_pure hq
theorem dict_put {dx : Addr} {m : Str → Option Value} {ns : List Str} {st : Shared} {t : Tok} {Q : PySem.Fin → Shared → Prop} (hns : st.heap.Ns1 dx m) (hw : Within m ns) (hl : ns.length ≤ 100)
    (k : ∀ h' tk', h'.Ns1 dx (fun y => if y = name then some v else m y) → (∀ b, b ≠ dx → h'.get? b = st.heap.get? b) → Q (.done (.ret .none)) { st with heap := h', toks := tk' }) :
    wpAny (model prog w) A (PySem.Builtin.ObjectAttr.storeInDict dx (.str name t) name v) Q E st := by
  unfold PySem.Builtin.ObjectAttr.storeInDict PySem.Builtin.ObjectAttr.newKeyGuard
  refine wpAny_bind (wpAny_pure (wpAny_bind (wpAny_nsSet1 hns fun h' hn' hs => ?_)))
  have room := hn'.count (Within.cons name v hw)
  obtain ⟨od, es, ep, e1, e2, e3⟩ := room
  have small : es.size ≤ sizeLine + 1 := by
    rw [List.length_cons] at e3
    rw [sizeLine_eq]; omega
  refine wpAny_bind (wpAny_lookBehind e1 (by rw [e2]; exact pastItsLine_dict small) ?_)
  wp_walk
  exact k h' _ hn' hs.2
noncomputable def hung (h : Heap) (x : Addr) : Heap := (h.push { cls := .type "dict", data := .dict #[] }).update x fun o => { cls := o.cls, dict := some h.objs.size, data := o.data, slots := o.slots }
theorem hung_at {o : Obj} (hx : h.get? x = some o) : (hung h x).get? x = some { cls := o.cls, dict := some h.objs.size, data := o.data, slots := o.slots } ∧ (hung h x).Ns h.objs.size (fun _ => none) ∧ ∀ b ob, b ≠ x → h.get? b = some ob → (hung h x).get? b = some ob := by
  have far : h.objs.size ≠ x := (Nat.ne_of_lt (Heap.lt_size hx)).symm
  have live := (Heap.get?_some_iff.mp hx).2
  refine ⟨Heap.get?_update_self _ (Heap.get?_push_of_some _ hx) ?_, ⟨_, #[], _, (Heap.get?_update_ne _ _ _ _ far).trans (Heap.get?_push_at rfl rfl), rfl, fun e he => absurd he (Array.not_mem_empty e), fun _ => rfl⟩, fun b ob hb e => (Heap.get?_update_ne _ _ _ _ hb).trans (Heap.get?_push_of_some _ e)⟩
  cases o with
  | mk oc od dt osl => cases dt <;> first | rfl | exact live
set_option tactic.hygienic true in
theorem rz_entry {t : Tok} {Q : PySem.Fin → Shared → Prop} {ns : List Str} (SF : StoreFacts B bmB sa owner) (T : Two h C N Rr nm q bs bmB sn sub ab col dd k0 k1 k2 k3 k5 newId mN mR) (hna : mN name = none) (hnR : mR name = none)
    (hB : typeLookup (.type B) name = pure none) (I : h.Inst x C mA)
    (hq : ∀ h' tk', h'.Inst x C (fun y => if y = name then some v else mA y) →
      (∀ b o, b ≠ x → (∀ o₀ dx, h.get? x = some o₀ → o₀.dict = some dx → b ≠ dx) → h.get? b = some o → h'.get? b = some o) →
      (∀ o₀, h.get? x = some o₀ → ∃ o₁, h'.get? x = some o₁ ∧ o₁.cls = o₀.cls ∧ o₁.data = o₀.data ∧ o₁.slots = o₀.slots ∧ (∀ dx, o₀.dict = some dx → o₁.dict = some dx) ∧ (o₀.dict = none → ∀ dx, o₁.dict = some dx → h.get? dx = none)) → Q (.done (.ret .none)) ⟨h', g, d, tk', os⟩) (hw : Within mA ns) (hsz : ns.length ≤ 100) :
    wpAny (model prog w) A (Builtin.«object.__setattr__» ⟨[.ref x, .str name t, v], []⟩) Q E ⟨h, g, d, tk, os⟩ := by
  have hC := T.hC
  obtain ⟨o, hx, hc, hnc, hd⟩ := I
  have hpass := SF.passes (.ref x)
  have hlk : ∀ {Q : Option Value → Shared → Prop} {A : Around} {E : Value → Shared → Prop}, Q none ⟨h, g, d, tk, os⟩ → wpAny (model prog w) A (typeLookup (.ref C) name) Q E ⟨h, g, d, tk, os⟩ := fun hq => rz_look T SF.mro hB hna (by rw [hnR]; exact hq)
  unfold Builtin.«object.__setattr__»
  repeat (first | rw [refuse_eq] | (rw [refuseLoop_ref, refuseLoop_ref, hpass]) | (with_reducible refine wpAny_loadPart_at hx ?_; rw [hc]) | with_reducible refine wpAny_mroOf_exc hC ?_ | (with_reducible refine hlk ?_) | wp_step)
  rcases hd with ⟨hdn, hmA⟩ | ⟨dx, hdx, hne, hns⟩
  · rw [hdn, if_neg (by simp [typeHasDict])]
    obtain ⟨u1, u2, u3⟩ := hung_at hx
    have far : x ≠ h.objs.size := Nat.ne_of_lt (Heap.lt_size hx)
    split
    · rename_i q; cases q
    · split
      · rename_i cl q; exact absurd q (hnc cl)
      · refine wpAny_bind (wpAny_alloc' (wpAny_bind (wpAny_update' (Heap.get?_push_of_some _ hx) (wpAny_pure (dict_put (st := ⟨hung h x, g, d, _, os⟩) (Heap.Ns1.of_empty u2) Within.nil (Nat.zero_le _) fun h' tk' hn same => ?_)))))
        have at_ := (same x far).trans u1
        refine hq h' tk' ⟨_, at_, hc, hnc, .inr ⟨h.objs.size, rfl, far.symm, ?_⟩⟩ (fun b ob hb _ e => (same b (Nat.ne_of_lt (Heap.lt_size e))).trans (u3 b ob hb e)) fun o₀ e => ?_
        · have : (fun y => if y = name then some v else mA y) = fun y => if y = name then some v else none := by simp only [hmA]
          rw [this]; exact hn
        · cases hx.symm.trans e
          exact ⟨_, at_, rfl, rfl, rfl, fun dx q => (by rw [hdn] at q; cases q), fun _ dx q => (by cases q; exact Heap.get?_none_of_le (Nat.le_refl _))⟩
  · rw [hdx]
    refine wpAny_pure (dict_put (st := ⟨h, g, d, tk, os⟩) hns hw hsz fun h' tk' hn same => ?_)
    have at_ := (same x hne.symm).trans hx
    refine hq h' tk' ⟨o, at_, hc, hnc, .inr ⟨dx, hdx, hne, hn⟩⟩ (fun b ob _ far e => (same b (far o dx hx hdx)).trans e) fun o₀ e => ?_
    cases hx.symm.trans e
    exact ⟨o, at_, rfl, rfl, rfl, fun _ q => q, fun q => (by rw [hdx] at q; cases q)⟩
theorem rz_check_sa {M : Model} {o : Obj} {nameV : Value} {Q : Unit → Shared → Prop} (SF : StoreFacts B bmB sa owner) (T : Two h C N Rr nm q bs bmB sn sub ab col dd k0 k1 k2 k3 k5 newId mN mR) (hx : h.get? x = some o) (hc : o.cls = .ref C) (hq : Q () ⟨h, g, d, tk, os⟩) :
    wpAny M A (checkBuiltinCall sa ⟨[.ref x, nameV, v], []⟩) Q E ⟨h, g, d, tk, os⟩ := by
  have hC := T.hC
  have hcB : (Value.ref C :: .ref Rr :: bmB).contains (.type owner) = true := by rw [List.contains_cons, List.contains_cons, SF.hasOwner]; simp
  have ha := SF.args (.ref x) nameV v
  simp only [checkBuiltinCall, SF.kind, SF.split]
  refine wpAny_bind ?_
  unfold isInstance
  repeat (first | (with_reducible refine wpAny_loadPart_at hx ?_; rw [hc]) | (with_reducible refine wpAny_isSubtype_exc hC ?_; rw [hcB]) | wp_step)
  cases hsig : Manifest.signature? sa with
  | none => exact wpAny_pure hq
  | some sig =>
    simp only [argsOk, hsig] at ha
    show wpAny M A (Bind.checkArgs sa sig ⟨[.ref x, nameV, v], []⟩) Q E _
    rw [ha]; exact wpAny_pure hq
theorem rz_store {Q : Unit → Shared → Prop} {ns : List Str} (SF : StoreFacts B bmB sa owner) (T : Two h C N Rr nm q bs bmB sn sub ab col dd k0 k1 k2 k3 k5 newId mN mR) (hsN : mN "__setattr__" = none) (hsR : mR "__setattr__" = none) (hna : mN name = none) (hnR : mR name = none)
    (hB : typeLookup (.type B) name = pure none) (I : h.Inst x C mA)
    (hq : ∀ h' tk', h'.Inst x C (fun y => if y = name then some v else mA y) →
      (∀ b o, b ≠ x → (∀ o₀ dx, h.get? x = some o₀ → o₀.dict = some dx → b ≠ dx) → h.get? b = some o → h'.get? b = some o) →
      (∀ o₀, h.get? x = some o₀ → ∃ o₁, h'.get? x = some o₁ ∧ o₁.cls = o₀.cls ∧ o₁.data = o₀.data ∧ o₁.slots = o₀.slots ∧ (∀ dx, o₀.dict = some dx → o₁.dict = some dx) ∧ (o₀.dict = none → ∀ dx, o₁.dict = some dx → h.get? dx = none)) → Q () ⟨h', g, d, tk', os⟩) (hw : Within mA ns) (hsz : ns.length ≤ 100) :
    wpAny (model prog w) A (setAttr (.ref x) name v) Q E ⟨h, g, d, tk, os⟩ := by
  obtain ⟨o, hx, hc, _⟩ := id I
  have hC := T.hC
  have f3 := SF.slot.bind (.ref x)
  have hlk : ∀ {Q : Option Value → Shared → Prop} {A : Around} {E : Value → Shared → Prop} {tk : Nat}, Q (some (.builtin sa)) ⟨h, g, d, tk, os⟩ → wpAny (model prog w) A (typeLookup (.ref C) "__setattr__") Q E ⟨h, g, d, tk, os⟩ := fun hq => rz_look T SF.mro SF.slot.lookup hsN (by rw [hsR]; exact hq)
  unfold setAttr callSpecial? specialOf
  repeat (any_goals (first | assumption | (with_reducible refine wpAny_loadPart_at hx ?_; rw [hc]) | (with_reducible refine hlk ?_) | wp_step))
  refine codeAny_call_builtin SF.slot.plain SF.entry (rz_check_sa SF T hx hc (rz_entry SF T hna hnR hB I (fun h' tk' I' hk hsame => ?_) hw hsz))
  repeat (any_goals (first | assumption | wp_step))
  exact hq h' tk' I' hk hsame
theorem rz_check_init {M : Model} (F : ExcBaseFacts B newId initId bmB) (T : Two h C N Rr nm q bs bmB sn sub ab col dd k0 k1 k2 k3 k5 newId mN mR) {e : Addr} {oe : Obj} {rest : List Value} {Q : Unit → Shared → Prop}
    (he : h.get? e = some oe) (hcls : oe.cls = .ref C) (hq : Q () ⟨h, g, d, tk, os⟩) :
    wpAny M A (checkBuiltinCall initId ⟨.ref e :: rest, []⟩) Q E ⟨h, g, d, tk, os⟩ := by
  have hC := T.hC
  have hcB : (Value.ref C :: .ref Rr :: bmB).contains (.type B) = true := by rw [List.contains_cons, List.contains_cons, F.hasB]; simp
  have hshort := F.noStar
  simp only [checkBuiltinCall, F.initKind, F.initSplit, F.initRow]
  repeat (first | (with_reducible refine wpAny_loadPart_at he ?_; rw [hcls]) | with_reducible refine wpAny_loadPart_at hC ?_ | (with_reducible refine wpAny_isSubtype_exc hC ?_; rw [hcB]) | wp_step)
  refine wpAny_onRaise ?_
  rw [show ∀ (a b : String) (n : Nat), Bind.check ⟨.positional, "*", B, .self, [⟨"args", .varPos, false⟩]⟩ a b n (List.map (fun x => x.fst) ({ pos := Value.ref e :: rest } : Args).kw) = pure () from
    fun a b n => check_star_args _ _ _ _ _ _]
  exact wpAny_pure hq
theorem rz_init (F : ExcBaseFacts B newId initId bmB) (T : Two h C N Rr nm q bs bmB sn sub ab col dd k0 k1 k2 k3 k5 newId mN mR) {e t0 : Addr} {oe : Obj} {vs : Array Value} {rest : List Value} {Q : Value → Shared → Prop}
    (he : h.get? e = some oe) (hcls : oe.cls = .ref C) (hd : oe.data = .fields vs) (h0 : vs[0]? = some (.ref t0)) (hrest : rest.length ≤ 100)
    (hq : Q .none ⟨(h.push { cls := .type "tuple", data := .seq rest.toArray }).update e (Obj.mapFields (·.setIfInBounds 0 (.ref h.objs.size))), g, d, tk, os⟩) :
    wpAny (model prog w) A (call (.builtin initId) (.ref e :: rest)) Q E ⟨h, g, d, tk, os⟩ := by
  refine wpAny_call (codeAny_call_builtin F.init.plain F.initEntry (rz_check_init F T he hcls ?_))
  unfold Builtin.«BaseException.__init__»
  dsimp only
  rw [if_neg (by simp)]
  unfold newTuple Builtin.BaseException.bexcPut
  have hsz : 0 < vs.size := (Array.getElem?_eq_some_iff.mp h0).1
  have he₁ := Heap.get?_push_of_some (h := h) { cls := .type "tuple", data := .seq rest.toArray } he
  refine wpAny_bind (wpAny_newObj_type (wpAny_bind (wpAny_bind (wpAny_field he₁ hd h0 (wpAny_bind (wpAny_setField he₁ hd hsz ?_))))) (by show rest.toArray.size ≤ sizeLine; rw [List.size_toArray, sizeLine_eq]; omega))
  exact wpAny_letGo (wpAny_pure hq)
end
section
variable {prog : Program} {w : World} {A : Around} {E : Value → Shared → Prop} {R : Result → Shared → Prop} {h : Heap} {g : Array GenState} {d : Drawn} {tk : Nat} {os : OsState}
variable {nm q : Str} {C N Rr x : Addr} {bs bmB : List Value} {sn : List Str} {sub : List Value} {ab : Bool} {col : Option Bool} {dd : Option Addr} {k0 k1 k2 k3 k5 : Option Value} {B newId initId sa owner : String} {mN mR mA : Str → Option Value} {name : Str} {v : Value}
theorem Two.tail (F : ExcBaseFacts B newId initId bmB) (Rr : Addr) : Tail B (.ref Rr :: bmB) :=
  ⟨by rw [List.contains_cons, F.hasB]; simp, by rw [List.contains_cons, F.hasBase]; simp, by rw [List.contains_cons, F.noAttr]; rfl, by rw [List.contains_cons, F.noName]; rfl⟩
theorem rz_type_call (F : ExcBaseFacts B newId initId bmB) (T : Two h C N Rr nm q bs bmB sn sub ab col dd k0 k1 k2 k3 k5 newId mN mR) {rest : List Value} {fI : Addr} {oI : Obj} {Q : PySem.Fin → Shared → Prop}
    (hN : mN "__init__" = none) (hR : mR "__init__" = some (.ref fI)) (hfI : h.get? fI = some oI) (hfc : oI.cls = .type "function")
    (hq : ∀ h' e, Heap.MadeExcOf h h' e (.ref C) rest →
      wpAny (model prog w) A (call (.ref fI) (.ref e :: rest)) (fun r s' => r = .none ∧ Q (.done (.ret (.ref e))) s') E ⟨h', g, d, tk, os⟩) (hrest : rest.length ≤ 100) :
    wpAny (model prog w) A (Builtin.«type.__call__» ⟨.ref C :: rest, []⟩) Q E ⟨h, g, d, tk, os⟩ := by
  have hC := T.hC
  have hrest' : rest.length ≤ sizeLine := by rw [sizeLine_eq]; omega
  repeat (first | with_reducible refine wpAny_loadPart_at hC ?_ | with_reducible refine wpAny_madeBy_exc hC ?_ | wp_step)
  refine codeAny_call_builtin_code (Code.quiet_builtin _ F.quiet) (rz_check F (Two.tail F Rr) hC ?_)
  refine rz_new F (Two.tail F Rr) hC ?_ hrest'
  show wpAny _ _ _ _ _ _
  have hk : ∀ b o, h.get? b = some o → ((h.push { cls := .type "tuple", data := .seq rest.toArray }).push { cls := .ref C, data := .fields #[.ref h.objs.size, .none, .none, .none, .bool false, .none] }).get? b = some o :=
    fun b o e => Heap.get?_push_of_some _ (Heap.get?_push_of_some _ e)
  have T₁ := T.keeps hk
  have hC₁ := T₁.hC
  have hget : ((h.push { cls := .type "tuple", data := .seq rest.toArray }).push
      { cls := .ref C, data := .fields #[.ref h.objs.size, .none, .none, .none, .bool false, .none] }).get? (h.objs.size + 1) = some
      { cls := .ref C, data := .fields #[.ref h.objs.size, .none, .none, .none, .bool false, .none] } := by heap_get
  have hcC : (Value.ref C :: .ref Rr :: bmB).contains (.ref C) = true := by simp
  unfold isInstance
  repeat (first | with_reducible refine wpAny_loadPart_at hget ?_ | (with_reducible refine wpAny_isSubtype_exc hC₁ ?_; rw [hcC]) | wp_step)
  show wpAny _ _ (typeLookup (.ref C) _) _ _ _
  refine rz_look T₁ F.mroIs F.init.lookup hN ?_
  rw [hR]
  refine wpAny_holding (wpAny_bind ?_)
  unfold bindSpecial
  refine wpAny_bind (wpAny_typeOf (T := "function") ⟨_, hk _ _ hfI, hfc⟩ ?_)
  rw [if_pos (by decide)]
  refine wpAny_pure (wpAny_bind (wpAny_mono (hq _ (h.objs.size + 1) ⟨hk, Heap.get?_none_of_le (Nat.le_succ _), h.objs.size, hget, Heap.get?_none_of_le (Nat.le_refl _), Heap.get?_push_of_some _ (Heap.get?_push_at rfl rfl)⟩) (fun r s' hr => ?_) fun _ _ x => x))
  obtain ⟨rfl, hQ⟩ := hr
  wp_walk
  exact hQ
theorem rz_call (F : ExcBaseFacts B newId initId bmB) (T : Two h C N Rr nm q bs bmB sn sub ab col dd k0 k1 k2 k3 k5 newId mN mR) {rest : List Value} {fI : Addr} {oI : Obj} {Q : Value → Shared → Prop}
    (hN : mN "__init__" = none) (hR : mR "__init__" = some (.ref fI)) (hfI : h.get? fI = some oI) (hfc : oI.cls = .type "function")
    (hq : ∀ h' e, Heap.MadeExcOf h h' e (.ref C) rest →
      wpAny (model prog w) (A.under (.builtin "type.__call__" ⟨.ref C :: rest, []⟩)) (call (.ref fI) (.ref e :: rest)) (fun r s' => r = .none ∧ Q (.ref e) s') E ⟨h', g, d, tk, os⟩) (hrest : rest.length ≤ 100) :
    wpAny (model prog w) A (call (.ref C) rest) Q E ⟨h, g, d, tk, os⟩ := by
  have hC := T.hC
  have f1 := tc_lookup
  have f2 := tc_bind (.ref C)
  have hT : (⟨h, g, d, tk, os⟩ : Shared).TypeIs (.ref C) "type" := ⟨_, hC, rfl⟩
  refine wpAny_call (codeAny_of_tree ?_)
  show wpAny _ _ (callAny (.ref C) _) _ _ _
  repeat (any_goals (first | assumption | with_reducible refine wpAny_loadPart_at hC ?_ | wp_step))
  refine ⟨rfl, ?_⟩
  refine codeAny_call_builtin_at (Code.quiet_builtin _ (by decide +kernel)) entry_typeCall (wpAny_check_type_call_sub hC (rz_type_call F T hN hR hfI hfc (fun h' e hm => ?_) hrest))
  exact hq h' e hm
theorem rz_raise {M : Model} {env : Env} {s : Shared} {y : Sem Value} {Q : Flow → Shared → Prop} (F : ExcBaseFacts B newId initId bmB) (hh : A.handled = none)
    (hy : wpAny M A y (fun v s₁ => ∃ e dx t, v = .ref e ∧ s₁.heap.get? C = some (excClassObj nm q C N bs (.ref Rr :: bmB) true sn sub ab col dd k0 k1 k2 k3 k5 newId) ∧
      s₁.heap.get? e = some { cls := .ref C, dict := dx, data := .fields #[.ref t, .none, .none, .none, .bool false, .none] } ∧ E (.ref e) s₁) E s) :
    wpAny M A (raiseStmt env (some y) none) Q E s := by
  have hcB : (Value.ref C :: .ref Rr :: bmB).contains (.type "BaseException") = true := Tail.me (Two.tail F Rr).base
  unfold raiseStmt
  refine wpAny_bind (wpAny_mono hy (fun v s₁ h₁ => ?_) fun _ _ x => x)
  obtain ⟨e, dx, t, rfl, hC, he, hE⟩ := h₁
  obtain ⟨hp, g, d, tk, os⟩ := s₁
  repeat (first | with_reducible refine wpAny_loadPart_at he ?_ | with_reducible refine wpAny_loadPart_at hC ?_ | (with_reducible refine wpAny_isSubtype_exc hC ?_; rw [hcB]) | wp_step)
  exact wpAny_raiseNew_none hh hE
end
section
variable {prog : Program} {w : World} {A : Around} {E : Value → Shared → Prop} {s : Shared}
theorem rz_method {K : Frag} {T : String} {name : Str} {v : Value} {pl : Sem Bool} {Q : Value × List Value → Shared → Prop} (X : K.In s.heap) (ht : typeOf (.type T) = pure (.type "type")) (hs : Manifest.isStub T = false)
    (e : findCls K (.type T) (.type "type") name = some (.val v)) (hh : handedIn v = true) (h : ∀ tk, Q (v, []) { s with toks := tk }) : wpAny (model prog w) A (getMethod (.type T) name pl) Q E s := by
  have hstub : opaqueClassAbove (.type T) = pure none := by unfold opaqueClassAbove; dsimp only; rw [hs]; rfl
  have L0 : Looks (model prog w) s.heap (typeOf (.type T)) (.type "type") := Looks.of_pure ht
  have hg : findIn K (.type "type") "__getattribute__" = some (some (.builtin "type.__getattribute__")) := type_tga
  unfold getMethod specialOf
  refine wpAny_bind (wpAny_bind (L0.here ((looks_findIn X hg).here ?_)))
  dsimp only
  rw [if_pos canon_tga]
  refine wpAny_bind (wpAny_mono (Q := fun v => Q (v, [])) (E := E) ?_ (fun _ _ z => wpAny_pure z) fun _ _ z => z)
  refine cls_open X (Looks.of_pure hstub) L0 hg (looks_hook X (r := none) (by rfl)) (by show subIn K _ _ = _; rfl) e
    (wpAny_pure (by show wpAny _ _ (handedOut v) _ _ _; rw [handedOut_of hh]; exact wpAny_pure (h _)))
theorem rz_open {M : Model} {env : Env} {o : PySem.Expr} {nm : Str} {apos pos : Pos} {ov : Value} {k : Nat} {trees : List (Bool × Sem Value)} {Q : Value → Shared → Prop}
    (hform : methodCallForm k trees [] = true) (hline : (apos.endLine == pos.line) = true) (h : ∀ pl : Sem Bool, wpAny M A (getMethod ov nm pl) (fun fx s₁ => wpAny M A (callWith pos fx.1 fx.2 trees []) Q E s₁) E s) : wpAny M A (methodCall o nm apos pos env ov k trees []) Q E s := by
  have hpos : methodCallPos true o env apos pos = pure pos := by unfold methodCallPos; simp [hline]
  unfold methodCall
  rw [hform]
  refine wpAny_bind (wpAny_holding (wpAny_mono (h _) (fun fx s₁ z => ?_) fun _ _ e => e))
  exact wpAny_bind (wpAny_of_eq hpos z)
noncomputable def iniB : List PySem.Stmt :=
  [.Expr (.Call (.Attribute (.Name "Exception" ⟨8, 8, 8, 17⟩) "__init__" ⟨8, 8, 8, 26⟩) [.Name "self" ⟨8, 27, 8, 31⟩, .Name "message" ⟨8, 33, 8, 40⟩] [] ⟨8, 8, 8, 41⟩) ⟨8, 8, 8, 41⟩,
   .Assign [.Attribute (.Name "self" ⟨9, 8, 9, 12⟩) "message" ⟨9, 8, 9, 20⟩] (.Name "message" ⟨9, 23, 9, 30⟩) ⟨9, 8, 9, 30⟩,
   .Assign [.Attribute (.Name "self" ⟨10, 8, 10, 12⟩) "spot" ⟨10, 8, 10, 17⟩] (.Name "spot" ⟨10, 20, 10, 24⟩) ⟨10, 8, 10, 24⟩]
noncomputable abbrev bmE : List Value := [.type "Exception", .type "BaseException", .type "object"]
noncomputable abbrev excD (C t : Addr) (d : Option Addr) : Obj := { cls := .ref C, dict := d, data := .fields #[.ref t, .none, .none, .none, .bool false, .none] }
section
variable {K : Frag} {b₁ : Heap} {nm q : Str} {C N Rr e t L : Addr} {bs : List Value} {sn : List Str} {sub : List Value} {ab : Bool} {col : Option Bool} {dd : Option Addr} {k0 k1 k2 k3 k5 : Option Value} {newId : String} {mN mR m mg mb : Str → Option Value} {env : Env} {v : Value}
structure Ini (K : Frag) (b₁ : Heap) (env : Env) (C N Rr : Addr) (nm q : Str) (bs : List Value) (sn : List Str) (sub : List Value) (ab : Bool) (col : Option Bool) (dd : Option Addr) (k0 k1 k2 k3 k5 : Option Value) (mN mR mg mb m : Str → Option Value) (L e : Addr) (v : Value) : Prop where
  X : K.In b₁
  T : Two b₁ C N Rr nm q bs bmE sn sub ab col dd k0 k1 k2 k3 k5 "Exception.__new__" mN mR
  g : b₁.Ns mainGlobals mg
  gE : mg "Exception" = none
  b : b₁.Ns builtinsNs mb
  bE : mb "Exception" = some (.type "Exception")
  fk : env.scope.kind = .function
  loc : env.locals = L
  glob : env.globals = mainGlobals
  blt : env.builtins = builtinsNs
  inter : interactive env = false
  kS : env.kindOf "self" = some .local
  kM : env.kindOf "message" = some .local
  kP : env.kindOf "spot" = some .local
  kE : env.kindOf "Exception" = some .globalImplicit
  mS : m "self" = some (.ref e)
  mM : m "message" = some v
  mP : m "spot" = some .none
  fresh : b₁.get? e = none
  eL : e ≠ L
  nSa : mN "__setattr__" = none
  rSa : mR "__setattr__" = none
  nM : mN "message" = none
  rM : mR "message" = none
  nP : mN "spot" = none
  rP : mR "spot" = none
  clsE : findCls K (.type "Exception") (.type "type") "__init__" = some (.val (.builtin "Exception.__init__"))
structure At (b₁ h : Heap) (C L e t : Addr) (d : Option Addr) (m : Str → Option Value) : Prop where
  base : ∀ b o, b₁.get? b = some o → h.get? b = some o
  loc : h.Ns L m
  me : h.get? e = some (excD C t d)
theorem ini1 (I : Ini K b₁ env C N Rr nm q bs sn sub ab col dd k0 k1 k2 k3 k5 mN mR mg mb m L e v) (H : At b₁ s.heap C L e t none m) {r : List PySem.Stmt} {Q : Flow → Shared → Prop}
    (h : ∀ h' t' tk, At b₁ h' C L e t' none m → wpAny (model prog w) A (execs r env) Q E { s with heap := h', toks := tk }) :
    wpAny (model prog w) A (execs (.Expr (.Call (.Attribute (.Name "Exception" ⟨8, 8, 8, 17⟩) "__init__" ⟨8, 8, 8, 26⟩) [.Name "self" ⟨8, 27, 8, 31⟩, .Name "message" ⟨8, 33, 8, 40⟩] [] ⟨8, 8, 8, 41⟩) ⟨8, 8, 8, 41⟩ :: r) env) Q E s := by
  refine wpAny_execs_cons (wpAny_Expr_any ?_ I.inter)
  rw [arm_eval_Call]
  refine wpAny_bind ?_
  show wpAny _ _ (eval (.Name "Exception" _) env) _ _ _
  refine Name_function_global I.fk I.kE (loadGlobal_builtin (by rw [I.glob]; exact I.g.keeps H.base) I.gE (by rw [I.blt]; exact I.b.keeps H.base) I.bE ?_)
  refine wpAny_bind (wpAny_standAt ?_)
  refine rz_open (by rfl) (by rfl) fun pl => rz_method (I.X.keeps H.base) (by rfl) (by decide +kernel) I.clsE rfl fun tk => ?_
  refine callWith_b (by rfl) ?_
  refine spliced_cons (wpAny_Name (wpAny_loadName_local I.fk I.kS (by rw [I.loc]; exact H.loc) I.mS (spliced_cons (wpAny_Name (wpAny_loadName_local I.fk I.kM (by rw [I.loc]; exact H.loc) I.mM (spliced_nil ?_)) (by decide +kernel))) ) (by decide +kernel))
  have T := I.T.keeps H.base
  refine rz_init PySem.F.excBase_Exception T H.me rfl rfl (by rfl) (by simp) ?_
  refine h _ s.heap.objs.size _ ⟨fun b o hb => ?_, ?_, ?_⟩
  · have hne : b ≠ e := fun q => by rw [q, I.fresh] at hb; cases hb
    exact (Heap.get?_update_ne _ _ _ _ hne).trans (Heap.get?_push_of_some _ (H.base b o hb))
  · obtain ⟨o, es, ep, e1, r⟩ := H.loc
    refine ⟨o, es, ep, ?_, r⟩
    exact (Heap.get?_update_ne _ _ _ _ (Ne.symm I.eL)).trans (Heap.get?_push_of_some _ e1)
  · exact (Heap.get?_update_self _ (Heap.get?_push_of_some _ H.me) rfl).trans rfl
theorem ini2 (I : Ini K b₁ env C N Rr nm q bs sn sub ab col dd k0 k1 k2 k3 k5 mN mR mg mb m L e v) (H : At b₁ s.heap C L e t none m) {r : List PySem.Stmt} {Q : Flow → Shared → Prop}
    (h : ∀ h' dx tk, At b₁ h' C L e t (some dx) m → b₁.get? dx = none → dx ≠ L → h'.Inst e C (fun y => if y = "message" then some v else none) → wpAny (model prog w) A (execs r env) Q E { s with heap := h', toks := tk }) :
    wpAny (model prog w) A (execs (.Assign [.Attribute (.Name "self" ⟨9, 8, 9, 12⟩) "message" ⟨9, 8, 9, 20⟩] (.Name "message" ⟨9, 23, 9, 30⟩) ⟨9, 8, 9, 30⟩ :: r) env) Q E s := by
  refine wpAny_execs_cons (plainObj_wpAny_Assign_Attribute ?_)
  refine wpAny_Name (wpAny_loadName_local I.fk I.kM (by rw [I.loc]; exact H.loc) I.mM ?_) (by decide +kernel)
  refine wpAny_Name (wpAny_loadName_local I.fk I.kS (by rw [I.loc]; exact H.loc) I.mS ?_) (by decide +kernel)
  refine rz_store (mA := fun _ => none) (ns := []) PySem.F.store_Exception (I.T.keeps H.base) I.nSa I.rSa I.nM I.rM (by rw [typeLookup_type, builtinLookup_eq_fast]; kernel_rfl) ⟨_, H.me, rfl, fun c z => (by cases z), .inl ⟨rfl, fun _ => rfl⟩⟩ (fun h' tk' hI hk hs => ?_) Within.nil (by simp)
  obtain ⟨o₁, e1, e2, e3, e4, _, e6⟩ := hs _ H.me
  obtain ⟨oc, od, odt, osl⟩ := o₁
  dsimp only at e2 e3 e4 e6
  subst e2 e3 e4
  have hk' : ∀ b o, b ≠ e → s.heap.get? b = some o → h'.get? b = some o := fun b o hb => hk b o hb fun o₀ dx h0 h1 => by rw [H.me] at h0; cases h0; cases h1
  have hb : ∀ b o, b₁.get? b = some o → h'.get? b = some o := fun b o z => hk' b o (fun q => by rw [q, I.fresh] at z; cases z) (H.base b o z)
  obtain ⟨o2, i1, i2, i3, i4⟩ := id hI
  obtain rfl := Option.some.inj (e1.symm.trans i1)
  rcases i4 with ⟨_, z⟩ | ⟨dx, i5, i6, i7⟩
  · have := z "message"; simp at this
  · dsimp only at i5
    subst i5
    have hf := e6 rfl dx rfl
    refine h h' dx tk' ⟨hb, ?_, e1⟩ ?_ ?_ hI
    · obtain ⟨o, es, ep, q1, r⟩ := H.loc
      exact ⟨o, es, ep, hk' _ _ (Ne.symm I.eL) q1, r⟩
    · cases z : b₁.get? dx with
      | none => rfl
      | some o => rw [H.base _ _ z] at hf; cases hf
    · rintro rfl
      obtain ⟨o, es, ep, q1, r⟩ := H.loc
      rw [q1] at hf; cases hf
theorem ini3 {dx : Addr} (I : Ini K b₁ env C N Rr nm q bs sn sub ab col dd k0 k1 k2 k3 k5 mN mR mg mb m L e v) (H : At b₁ s.heap C L e t (some dx) m) (h0 : b₁.get? dx = none) (hL : dx ≠ L) (hI : s.heap.Inst e C (fun y => if y = "message" then some v else none)) {Q : Flow → Shared → Prop}
    (h : ∀ h' d tk, (∀ b o, b₁.get? b = some o → h'.get? b = some o) → h'.get? e = some (excD C t d) → Q .next { s with heap := h', toks := tk }) :
    wpAny (model prog w) A (execs [.Assign [.Attribute (.Name "self" ⟨10, 8, 10, 12⟩) "spot" ⟨10, 8, 10, 17⟩] (.Name "spot" ⟨10, 20, 10, 24⟩) ⟨10, 8, 10, 24⟩] env) Q E s := by
  refine wpAny_execs_cons (plainObj_wpAny_Assign_Attribute ?_)
  refine wpAny_Name (wpAny_loadName_local I.fk I.kP (by rw [I.loc]; exact H.loc) I.mP ?_) (by decide +kernel)
  refine wpAny_Name (wpAny_loadName_local I.fk I.kS (by rw [I.loc]; exact H.loc) I.mS ?_) (by decide +kernel)
  refine rz_store (ns := ["message"]) PySem.F.store_Exception (I.T.keeps H.base) I.nSa I.rSa I.nP I.rP (by rw [typeLookup_type, builtinLookup_eq_fast]; kernel_rfl) hI (fun h' tk' hI' hk hs => ?_) (Within.cons _ _ Within.nil) (by simp)
  obtain ⟨o₁, e1, e2, e3, e4, _⟩ := hs _ H.me
  obtain ⟨oc, od, odt, osl⟩ := o₁
  dsimp only at e2 e3 e4
  subst e2 e3 e4
  refine wpAny_execs_nil (h h' od tk' (fun b o z => hk b o (fun q => by rw [q, I.fresh] at z; cases z) (fun o₀ dy y0 y1 => ?_) (H.base b o z)) e1)
  rw [H.me] at y0
  cases y0; cases y1
  intro q
  rw [q, h0] at z; cases z
theorem ini_all (I : Ini K b₁ env C N Rr nm q bs sn sub ab col dd k0 k1 k2 k3 k5 mN mR mg mb m L e v) (H : At b₁ s.heap C L e t none m) {Q : Flow → Shared → Prop}
    (h : ∀ h' t' d tk, (∀ b o, b₁.get? b = some o → h'.get? b = some o) → h'.get? e = some (excD C t' d) → Q .next { s with heap := h', toks := tk }) :
    wpAny (model prog w) A (execs iniB env) Q E s :=
  ini1 I H fun _ t' _ H1 => ini2 (s := { s with heap := _, toks := _ }) I H1 fun _ _ _ H2 h0 hL hI => ini3 (s := { s with heap := _, toks := _ }) I H2 h0 hL hI fun h' d tk a b => h h' t' d tk a b
end
end
section
variable {prog : Program} {w : World} {A : Around} {E : Value → Shared → Prop}
variable {K : Frag} {b₀ : Heap} {nm q : Str} {C N Rr fI T0 : Addr} {bs : List Value} {sn : List Str} {sub : List Value} {ab : Bool} {col : Option Bool} {dd : Option Addr} {k0 k1 k2 k3 k5 : Option Value} {mN mR mg mb : Str → Option Value} {fd : FuncData}
structure Exc0 (K : Frag) (b₀ : Heap) (C N Rr fI T0 : Addr) (nm q : Str) (bs : List Value) (sn : List Str) (sub : List Value) (ab : Bool) (col : Option Bool) (dd : Option Addr) (k0 k1 k2 k3 k5 : Option Value) (mN mR mg mb : Str → Option Value) (fd : FuncData) : Prop where
  X : K.In b₀
  T : Two b₀ C N Rr nm q bs bmE sn sub ab col dd k0 k1 k2 k3 k5 "Exception.__new__" mN mR
  lim : b₀.NoLimit
  g : b₀.Ns mainGlobals mg
  gE : mg "Exception" = none
  b : b₀.Ns builtinsNs mb
  bE : mb "Exception" = some (.type "Exception")
  nI : mN "__init__" = none
  rI : mR "__init__" = some (.ref fI)
  f_ : ∃ d sl, b₀.get? fI = some { cls := .type "function", dict := d, data := .func fd, slots := sl }
  body : fd.body = .stmts iniB
  clos : fd.closure = []
  glob : fd.globals = mainGlobals
  blt : fd.builtins = builtinsNs
  fk : fd.scope.kind = .function
  co : fd.scope.isCoroutine = false
  gen : fd.scope.isGenerator = false
  names : fd.scope.names = [(Str.ofString "self", NameKind.local), (Str.ofString "message", NameKind.local), (Str.ofString "spot", NameKind.local), (Str.ofString "Exception", NameKind.globalImplicit)]
  rec_ : b₀.CodeRec fd.code fd.qualname
  dflt : fd.defaults = .ref T0
  dat : ∃ o n, b₀.get? T0 = some o ∧ o.data = .seq #[.none] n
  bind : ∀ a b : Value, ∃ k : Option (Array Value) → Sem (List (Str × Value)), bindArgs fd ⟨[a, b], []⟩ = (seqItems? fd.defaults >>= k) ∧ k (some #[.none]) = pure [(Str.ofString "self", a), (Str.ofString "message", b), (Str.ofString "spot", Value.none)]
  nSa : mN "__setattr__" = none
  rSa : mR "__setattr__" = none
  nM : mN "message" = none
  rM : mR "message" = none
  nP : mN "spot" = none
  rP : mR "spot" = none
  clsE : findCls K (.type "Exception") (.type "type") "__init__" = some (.val (.builtin "Exception.__init__"))
theorem Exc0.keeps {b₁ : Heap} (I : Exc0 K b₀ C N Rr fI T0 nm q bs sn sub ab col dd k0 k1 k2 k3 k5 mN mR mg mb fd) (hk : ∀ b o, b₀.get? b = some o → b₁.get? b = some o) : Exc0 K b₁ C N Rr fI T0 nm q bs sn sub ab col dd k0 k1 k2 k3 k5 mN mR mg mb fd :=
  { I with X := I.X.keeps hk, T := I.T.keeps hk, lim := I.lim.keeps hk, g := I.g.keeps hk, b := I.b.keeps hk, f_ := let ⟨d, sl, e⟩ := I.f_; ⟨d, sl, hk _ _ e⟩, rec_ := I.rec_.keeps hk, dat := let ⟨o, n, e, r⟩ := I.dat; ⟨o, n, hk _ _ e, r⟩ }
theorem rz_init_call {s : Shared} {b₁ : Heap} {e t : Addr} {v : Value} (I : Exc0 K b₁ C N Rr fI T0 nm q bs sn sub ab col dd k0 k1 k2 k3 k5 mN mR mg mb fd) (hroom : A.depth < recursionLimit) (hb : ∀ b o, b₁.get? b = some o → s.heap.get? b = some o) (hf : b₁.get? e = none) (he : s.heap.get? e = some (excD C t none))
    {Q : Value → Shared → Prop} (h : ∀ h' t' d tk, (∀ b o, b₁.get? b = some o → h'.get? b = some o) → h'.get? e = some (excD C t' d) → Q .none { s with heap := h', toks := tk }) :
    wpAny (model prog w) A (call (.ref fI) [.ref e, v]) Q E s := by
  have J := I.keeps hb
  obtain ⟨fd', sl, hfI⟩ := J.f_
  obtain ⟨k, e1, e2⟩ := I.bind (.ref e) v
  obtain ⟨o, n, d1, d2⟩ := J.dat
  refine wpAny_call (codeAny_call_function hroom hfI rfl I.co I.gen I.body J.rec_ (BindsTo.of_defaults I.dflt d1 d2 e1 e2 _ _ _ _ ?_))
  rw [I.clos]
  refine wpAny_newFunctionEnv_cells I.fk (fun x hx => .inl ?_) (fun env henv s₁ x => ?_)
  · rw [I.names]
    simp only [List.mem_cons, List.not_mem_nil, or_false] at hx
    rcases hx with rfl | rfl | rfl <;> kernel_rfl
  · obtain ⟨⟨⟨h₂, tk₂, rfl⟩, hns, hkeep, hfresh⟩, -, -, -⟩ := x
    dsimp only at hns hkeep
    refine ⟨J.lim.keeps hkeep, codeAny_func ?_⟩
    subst henv
    have ekn : ∀ y, (newEnv fd.scope s.heap.objs.size fd.globals (cellsFrom (s.heap.objs.size + 1) fd.scope.names []) (fd.qualname ++ ".<locals>.") (some fI) fd.code none fd.builtins).kindOf y = fd.scope.names.lookup y := fun y => rfl
    refine ini_all (K := K) (b₁ := b₁) (mN := mN) (mR := mR) (mg := mg) (mb := mb) (L := s.heap.objs.size) (e := e) (v := v) (t := t) (m := _) ⟨I.X, I.T, I.g, I.gE, I.b, I.bE, I.fk, rfl, I.glob, I.blt, ?_, ?_, ?_, ?_, ?_, ?_, ?_, ?_, hf, Nat.ne_of_lt (Heap.lt_size he), I.nSa, I.rSa, I.nM, I.rM, I.nP, I.rP, I.clsE⟩ ⟨fun b o z => hkeep _ _ (hb b o z), hns, hkeep _ _ he⟩ (fun h' t' d tk a b => ?_)
    · unfold interactive
      simp [newEnv, I.fk]
    · rw [ekn, I.names]; kernel_rfl
    · rw [ekn, I.names]; kernel_rfl
    · rw [ekn, I.names]; kernel_rfl
    · rw [ekn, I.names]; kernel_rfl
    · exact bindL_get (ns := [Str.ofString "self", Str.ofString "message", Str.ofString "spot"]) (vs := [.ref e, v, .none]) (i := 0) (by rw [ekn, I.names]; kernel_rfl) (by decide +kernel) rfl rfl
    · exact bindL_get (ns := [Str.ofString "self", Str.ofString "message", Str.ofString "spot"]) (vs := [.ref e, v, .none]) (i := 1) (by rw [ekn, I.names]; kernel_rfl) (by decide +kernel) rfl rfl
    · exact bindL_get (ns := [Str.ofString "self", Str.ofString "message", Str.ofString "spot"]) (vs := [.ref e, v, .none]) (i := 2) (by rw [ekn, I.names]; kernel_rfl) (by decide +kernel) rfl rfl
    · exact h h' t' d tk a b
theorem raise_w (I : Exc0 K b₀ C N Rr fI T0 nm q bs sn sub ab col dd k0 k1 k2 k3 k5 mN mR mg mb fd) : RaiseW C prog w b₀ := by
  intro A env g pn pc pos arg s E Q hh hdep hst h
  rw [arm_exec_Raise]
  simp only [evalOpt, Option.map]
  refine wpAny_bind (wpAny_standAt (rz_raise (C := C) (nm := nm) (q := q) (N := N) (Rr := Rr) (bs := bs) (sn := sn) (sub := sub) (ab := ab) (col := col) (dd := dd) (k0 := k0) (k1 := k1) (k2 := k2) (k3 := k3) (k5 := k5) PySem.F.excBase_Exception hh ?_))
  refine wpAny_bind (wpAny_mono (wpAny_Call_ofName (wpAny_mono h (fun f s₁ h₁ => ?_) fun _ _ x => x)) (fun v s₃ h₃ => wpAny_bind (wpAny_standAt (wpAny_pure h₃))) fun _ _ x => x)
  obtain ⟨rfl, h₁⟩ := h₁
  have hbk : backTo pc (starEach [arg] env) = [(false, eval arg env)] := by rw [hst]; rfl
  rw [hbk]
  unfold callWith
  refine wpAny_bind (wpAny_holding (Calls.evalArgs_plain (Calls.spliced_cons (wpAny_mono h₁ (fun v s₂ h₂ => Calls.spliced_nil (wpAny_bind (wpAny_standAt ?_))) fun _ _ x => x))))
  obtain ⟨⟨x, t, rfl⟩, hb, hE⟩ := h₂
  obtain ⟨hp, g, d, tk, os⟩ := s₂
  have J := I.keeps hb
  refine wpAny_bind (wpAny_keeperOf_exc J.T.hC ?_)
  obtain ⟨fd', sl, hfI⟩ := J.f_
  refine wpAny_bind (rz_call (rest := [.str x t]) PySem.F.excBase_Exception J.T J.nI J.rI hfI rfl (fun h' e hm => ?_) (by simp))
  obtain ⟨tt, ht, hn, _⟩ := hm.there
  refine rz_init_call (b₁ := hp) (t := tt) J (by show A.depth + Code.weight (.builtin "type.__call__" ⟨[.ref C, .str x t], []⟩) < recursionLimit; have h1 : recursionLimit = 1000 := (by decide +kernel); have h2 : Code.weight (.builtin "type.__call__" ⟨[.ref C, .str x t], []⟩) = 1 := (by kernel_rfl); omega) hm.keeps hm.new ht (fun h'' t' dd tk' hk he => ⟨rfl, ?_⟩)
  refine wpAny_bind (wpAny_holding (wpAny_point (wpAny_pure ?_)))
  exact ⟨e, dd, t', rfl, hk _ _ J.T.hC, he, hE h'' tk' e hk hm.new ⟨dd, t', he⟩⟩
theorem match_w (I : Exc0 K b₀ C N Rr fI T0 nm q bs sn sub ab col dd k0 k1 k2 k3 k5 mN mR mg mb fd) : MatchW C prog w b₀ := by
  intro A s e E Q hb he hq
  obtain ⟨oe, e1, e2⟩ := he
  obtain ⟨h, g, d, t, os⟩ := s
  exact wpAny_excMatches_sub_self (I.T.keeps hb).hC e1 e2 (Two.tail PySem.F.excBase_Exception Rr).base hq
end
noncomputable def faL : List Addr := [62, 69, 76, 83, 90, 97, 114, 121, 135, 143, 150, 157, 164, 169, 176, 190, 197, 225, 239, 246, 253, 267, 272, 277, 282, 296, 303, 310, 317, 324, 329, 334, 341, 348, 353, 360, 367, 374, 381, 388, 395, 402, 407, 414, 419, 424, 429, 434, 439, 444, 451, 456]
noncomputable def caL : List Addr := [124, 207, 228, 285]
noncomputable def faF (f : Nat) : Addr := faL.getD f 0
noncomputable def caF (k : Nat) : Addr := caL.getD k 0
noncomputable def fdAt (K : Frag) (a : Addr) : Option FuncData := match K.lookup a with
  | some ⟨_, _, .func fd, _⟩ => some fd
  | _ => none
noncomputable def codeAt (K : Frag) : Value → Option Str
  | .ref c => match K.lookup c with
    | some ⟨_, _, .fields vs, _⟩ => match (vs[1]? : Option Value) with
      | some (Value.str q _) => some q
      | _ => none
    | _ => none
  | _ => none
structure FnK (K : Frag) (a : Addr) (fn : Fn) (fd : FuncData) : Prop where
  at_ : fdAt K a = some fd
  body : fd.body = .stmts (slSt tab fn.tb fn.body)
  clos : fd.closure = []
  glob : fd.globals = mainGlobals
  blt : fd.builtins = builtinsNs
  kind : fd.scope.kind = .function
  co : fd.scope.isCoroutine = false
  gen : fd.scope.isGenerator = false
  rec_ : codeAt K fd.code = some fd.qualname
  bind : ∀ vals : List Value, vals.length = fn.np → bindArgs fd ⟨vals, []⟩ = pure (((fn.tb.take fn.np).map (·.1)).zip vals)
  okB : okSL tab fd.scope fn.tb fn.body = true
  okT : okFn fd.scope fn = true
set_option tactic.hygienic true in
theorem fnAt_of {c : Cx} {f : Nat} {fn : Fn} {fd : FuncData} (X : c.K.In c.b₀) (hT : c.T = tab) (h : FnK c.K (c.fa f) fn fd) : ∃ o fd, FnAt c f fn o fd := by
  obtain ⟨h1, h2, h3, h4, h5, h6, h7, h8, h9, h10, h11, h12⟩ := h
  unfold fdAt at h1
  split at h1
  · rename_i cl d fd' sl ho
    cases h1
    have hc : c.b₀.CodeRec fd.code fd.qualname := by
      unfold codeAt at h9
      split at h9
      · rename_i cc hcc
        split at h9
        · rename_i q1 q2 vs q3 hq
          split at h9
          · rename_i q t hv
            cases h9
            exact ⟨cc, _, vs, t, hcc, X _ _ hq, rfl, hv⟩
          · cases h9
        · cases h9
      · cases h9
    exact ⟨_, fd, ⟨X _ _ ho, rfl, by rw [hT]; exact h2, h3, h4, h5, h6, h7, h8, hc, h10, by rw [hT]; exact h11, h12⟩⟩
  · cases h1
noncomputable def rdIn (K : Frag) : Nat → Value → PyData → Bool
  | 0, _, _ => false
  | n + 1, v, x => match v, x with
    | .str a _, .str b => a == b && (PyData.str b).canLay0
    | .ref a, .tuple ds => match K.lookup a with
      | some ⟨.type "tuple", _, .seq vs _, _⟩ => vs.toList.length == ds.length && (vs.toList.zip ds).all fun p => rdIn K n p.1 p.2
      | _ => false
    | _, _ => false
theorem rdA_of {K : Frag} {h : Heap} {n : Nat} (ih : ∀ {v x}, rdIn K n v x = true → Rd h v x) : ∀ {vs : List Value} {ds : List PyData}, (vs.length == ds.length) = true → ((vs.zip ds).all fun p => rdIn K n p.1 p.2) = true → RdA h vs ds
  | [], [], _, _ => .nil
  | v :: vs, d :: ds, h1, h2 => by
    simp only [List.zip_cons_cons, List.all_cons, Bool.and_eq_true] at h2
    exact .cons (ih h2.1) (rdA_of ih (by simpa using h1) h2.2)
  | [], _ :: _, h1, _ => by simp at h1
  | _ :: _, [], h1, _ => by simp at h1
theorem rd_of {K : Frag} {h : Heap} (X : K.In h) : ∀ {n : Nat} {v : Value} {x : PyData}, rdIn K n v x = true → Rd h v x
  | 0, _, _, e => by cases e
  | n + 1, v, x, e => by
    unfold rdIn at e
    split at e
    · simp only [Bool.and_eq_true, beq_iff_eq] at e
      obtain ⟨rfl, e⟩ := e
      exact ⟨⟨_, .str _ _⟩, e⟩
    · split at e
      · rename_i ho
        simp only [Bool.and_eq_true] at e
        obtain ⟨⟨as, r⟩, c⟩ := rdA_of (fun {v x} => rd_of X (n := n)) e.1 e.2
        exact ⟨⟨as, .tuple (X _ _ ho) rfl rfl r⟩, c⟩
      · cases e
    · cases e
noncomputable def mgIn (K : Frag) (n : Str) : Option Value := (nsIn K mainGlobals n).join
noncomputable def glbOk (K : Frag) (g : Nat) : Bool := match tab.gk g with
  | .fn f _ => nsIn K mainGlobals (tab.gn g) == some (some (.ref (faF f))) && keepIn K (.ref (faF f))
  | .cls k f => nsIn K mainGlobals (tab.gn g) == some (some (.ref (caF k))) && keepIn K (.ref (caF k)) && makesIn K (caF k) && findIn K (.ref (caF k)) "__init__" == some (some (.ref (faF f))) && typeIn K (.ref (faF f)) == some (.type "function")
  | .dat x => match nsIn K mainGlobals (tab.gn g) with
    | some (some v) => rdIn K 4 v x
    | _ => false
  | .bt => true
noncomputable def clsOk (K : Frag) (k : Nat) : Bool :=
  (clsIn K (caF k)).any (fun cd => cd.hasDict) && findIn K (.ref (caF k)) "__getattribute__" == some (some (.builtin "object.__getattribute__")) && findIn K (.ref (caF k)) "__getattr__" == some none &&
  findIn K (.ref (caF k)) "__setattr__" == some (some (.builtin "object.__setattr__")) && plainOver K (caF k) &&
  (List.range 21).all (fun a => !plainAt (tab.ak a) k || findIn K (.ref (caF k)) (tab.an a) == some none) &&
  (List.range 21).all (fun a => match tab.ak a with
    | .own k' f => k' != k || (findIn K (.ref (caF k)) (tab.an a) == some (some (.ref (faF f))) && typeIn K (.ref (faF f)) == some (.type "function") && keepIn K (.ref (faF f)))
    | _ => true)
theorem gk_big {g : Nat} (h : 61 ≤ g) : tab.gk g = .bt := by
  show gkL.getD g .bt = .bt
  rw [List.getD_eq_getElem?_getD, List.getElem?_eq_none (by rw [show gkL.length = 61 from rfl]; exact h)]; rfl
theorem ak_big {a : Nat} (h : 21 ≤ a) : tab.ak a = .plain ∧ tab.an a = ("" : Str) := by
  constructor
  · show akL.getD a .plain = .plain
    rw [List.getD_eq_getElem?_getD, List.getElem?_eq_none (by rw [show akL.length = 21 from rfl]; exact h)]; rfl
  · show anL.getD a default = _
    rw [List.getD_eq_getElem?_getD, List.getElem?_eq_none (by rw [show anL.length = 21 from rfl]; exact h)]; rfl
theorem all_lt {n : Nat} {p : Nat → Bool} (h : (List.range n).all p = true) {i : Nat} (hi : i < n) : p i = true := List.all_eq_true.mp h i (List.mem_range.mpr hi)
theorem glb_at {K : Frag} (h : (List.range 61).all (glbOk K) = true) (g : Nat) : glbOk K g = true := by
  by_cases hg : g < 61
  · exact all_lt h hg
  · unfold glbOk; rw [gk_big (by omega)]
theorem cls_lt {g k f : Nat} (h : tab.gk g = .cls k f) : k < 4 := by
  by_cases hg : g < 61
  · have : (List.range 61).all (fun g => match tab.gk g with | .cls k _ => decide (k < 4) | _ => true) = true := by decide +kernel
    have := all_lt this hg
    rw [h] at this
    exact of_decide_eq_true this
  · rw [gk_big (by omega)] at h; cases h
structure KF (K : Frag) : Prop where
  glb : (List.range 61).all (glbOk K) = true
  cls : (List.range 4).all (clsOk K) = true
  emp : (List.range 4).all (fun k => findIn K (.ref (caF k)) "" == some none) = true
  blt : blts.all (fun n => nsIn K mainGlobals n == some none) = true
  fns : ∀ f fn, fns[f]? = some fn → ∃ fd, FnK K (faF f) fn fd
set_option tactic.hygienic true in
theorem wd_of {c : Cx} {lf : Addr} {mg mb : Str → Option Value} (hT : c.T = tab ∧ c.fs = Mine.fns) (hca : c.ca = caF) (hfa : c.fa = faF) (X : c.K.In c.b₀) (F : KF c.K) (hl : c.b₀.NoLimit) (hs : ∃ o, c.b₀.get? sysModules = some o)
    (hd : ∃ mc, c.b₀.Ns cStatics mc ∧ mc "sys.int_max_str_digits" = none) (hg : c.b₀.Ns mainGlobals mg) (hb : c.b₀.Ns builtinsNs mb) (hbb : ∀ x : Str, x ≠ "__name__" → mb x = bootBuiltins x) (hlf : mg ("LowerFault" : Str) = some (.ref lf))
    (hr : RaiseW lf c.prog c.w c.b₀) (hm : MatchW lf c.prog c.w c.b₀) : Wd lf c := by
  obtain ⟨prog, w, T, K, ca, fa, b₀, A, frs, amb, fs⟩ := c
  dsimp only at *
  obtain ⟨rfl, rfl⟩ := hT
  subst hca hfa
  have G := fun g => glb_at F.glb g
  have C := fun k hk => all_lt F.cls (i := k) hk
  refine ⟨X, hl, hs, ?_, ?_, hd, ⟨mg, mb, hg, hb, ?_, ?_, ?_, ?_⟩, ?_, ⟨mg, hg, hlf⟩, hr, hm, ?_, rfl, rfl⟩
  · -- names of attributes are apart
    intro a b e hn
    dsimp only at e hn
    have ha : a < 21 := by
      by_cases h : a < 21
      · exact h
      · exact absurd (ak_big (by omega)).2 hn
    have hb : b < 21 := by
      by_cases h : b < 21
      · exact h
      · rw [(ak_big (a := b) (by omega)).2] at e; exact absurd e hn
    have : (List.range 21).all (fun a => (List.range 21).all fun b => tab.an a != tab.an b || a == b) = true := by decide +kernel
    have := all_lt (all_lt this ha) hb
    rw [e] at this
    simpa using this
  · intro g k f h
    dsimp only at h ⊢
    have hk := C k (cls_lt h)
    unfold clsOk at hk
    simp only [Bool.and_eq_true, beq_iff_eq] at hk
    obtain ⟨⟨⟨⟨⟨⟨h1, h2⟩, h3⟩, h4⟩, h5⟩, h6⟩, h7⟩ := hk
    obtain ⟨cd, e1, e2⟩ := any_some h1
    refine ⟨cd, e1, e2, h2, ?_, h3, ?_⟩
    · intro a hp
      by_cases ha : a < 21
      · have := all_lt h6 ha
        rw [hp] at this
        simpa using this
      · rw [(ak_big (a := a) (by omega)).2]
        have := all_lt F.emp (cls_lt h)
        simpa using this
    · intro a f' hp
      by_cases ha : a < 21
      · have := all_lt h7 ha
        rw [hp] at this
        simp only [bne_self_eq_false, Bool.false_or, Bool.and_eq_true, beq_iff_eq] at this
        exact ⟨this.1.1, this.1.2, this.2⟩
      · rw [(ak_big (a := a) (by omega)).1] at hp; cases hp
  · intro g x h
    have q := G g
    unfold glbOk at q
    rw [h] at q
    dsimp only at q
    split at q
    · rename_i v hv
      exact ⟨v, mg_of X hg hv, rd_of X q⟩
    · cases q
  · intro g f inl h
    have q := G g
    unfold glbOk at q
    rw [h] at q
    simp only [Bool.and_eq_true, beq_iff_eq] at q
    exact ⟨mg_of X hg q.1, q.2⟩
  · intro g k f h
    have q := G g
    unfold glbOk at q
    rw [h] at q
    simp only [Bool.and_eq_true, beq_iff_eq] at q
    obtain ⟨⟨⟨⟨q1, q2⟩, q3⟩, q4⟩, q5⟩ := q
    exact ⟨mg_of X hg q1, q2, q3, q4, q5⟩
  · intro nm h
    have q := List.all_eq_true.mp F.blt nm h
    refine ⟨mg_none_of X hg (by simpa using q), hbb nm ?_⟩
    rintro rfl
    revert h
    decide +kernel
  · intro g k f h
    have hk := C k (cls_lt h)
    unfold clsOk at hk
    simp only [Bool.and_eq_true, beq_iff_eq] at hk
    exact ⟨hk.1.1.1.2, hk.1.1.2⟩
  · intro f fn h
    obtain ⟨fd, h⟩ := F.fns f fn h
    exact fnAt_of (c := ⟨prog, w, tab, K, caF, faF, b₀, A, frs, amb, Mine.fns⟩) X rfl h
theorem ofS_inj {a b : String} (h : Str.ofString a = Str.ofString b) : a = b := by
  rw [Str.ofString_eq_toList, Str.ofString_eq_toList] at h
  simp only [Str.mk.injEq] at h
  have h1 := congrArg Array.toList h
  simp only [] at h1
  exact String.toList_inj.mp ((List.map_inj_right (fun c d e => Char.ext (UInt32.toNat_inj.mp e))).mp h1)
theorem ofS_eq (a b : String) : (Str.ofString a = Str.ofString b) = (a = b) := propext ⟨ofS_inj, fun e => e ▸ rfl⟩
theorem beqS (a b : Str) : (a == b) = decide (a = b) := by
  cases h : a == b with
  | true => simp [beq_iff_eq.mp h]
  | false => simp only [beq_eq_false_iff_ne] at h; simp [h]
noncomputable def fin (r : Out Fl) : Out V := r.bind fun fl σ => match fl with
  | .next _ => .ok (.d .none) σ
  | .ret v => .ok v σ
theorem fin_ret (v : V) (σ : Sg) : fin (.ok (.ret v) σ) = .ok v σ := rfl
theorem fin_next (vs : Vs) (σ : Sg) : fin (.ok (.next vs) σ) = .ok (.d .none) σ := rfl
theorem fin_ex : fin .ex = .ex := rfl
theorem b_ok {α β : Type} (a : α) (σ : Sg) (f : α → Sg → Out β) : (Out.ok a σ).bind f = f a σ := rfl
theorem b_ex {α β : Type} (f : α → Sg → Out β) : (Out.ex : Out α).bind f = .ex := rfl
theorem run_at {n i : Nat} {f : Fn} (h : fns[i]? = some f) (as : List V) (σ : Sg) (hl : as.length = f.np) : runN tab fns (n + 1) i as σ = fin (exL tab (runN tab fns n) f.body (as.map some ++ List.replicate (f.tb.length - f.np) none) σ) := by
  simp only [runN, h, runFn, hl, if_true]
  rfl
noncomputable abbrev pS (n : Str) : PyData := .tuple [.str (Str.ofString "sym"), .str n]
noncomputable abbrev pE (h : Str) (ps : List PyData) : PyData := .tuple [.str (Str.ofString "expr"), .str h, .tuple ps]
noncomputable abbrev pI (k : Int) : PyData := .tuple [.str (Str.ofString "int"), .int k]
noncomputable abbrev pV (a : String) (x : PyData) : PyData := .tuple [.str (Str.ofString "value"), .tuple [.str (Str.ofString a), x]]
theorem icast0 : ((0 : Nat) : Int) = 0 := rfl
theorem icast1 : ((1 : Nat) : Int) = 1 := rfl
theorem icast2 : ((2 : Nat) : Int) = 2 := rfl
theorem icast3 : ((3 : Nat) : Int) = 3 := rfl
theorem icast4 : ((4 : Nat) : Int) = 4 := rfl
theorem icast5 : ((5 : Nat) : Int) = 5 := rfl
theorem place_1_0 : place 1 0 = some 0 := by decide
theorem place_3_0 : place 3 0 = some 0 := by decide
theorem place_3_1 : place 3 1 = some 1 := by decide
theorem place_3_2 : place 3 2 = some 2 := by decide
theorem place_2_0 : place 2 0 = some 0 := by decide
theorem place_2_1 : place 2 1 = some 1 := by decide
theorem place_4_0 : place 4 0 = some 0 := by decide
theorem place_4_1 : place 4 1 = some 1 := by decide
theorem place_4_2 : place 4 2 = some 2 := by decide
theorem place_4_3 : place 4 3 = some 3 := by decide
theorem place_5_0 : place 5 0 = some 0 := by decide
theorem place_5_1 : place 5 1 = some 1 := by decide
theorem place_5_2 : place 5 2 = some 2 := by decide
theorem place_5_3 : place 5 3 = some 3 := by decide
theorem place_5_4 : place 5 4 = some 4 := by decide
theorem g_0 : tab.gk 0 = .bt := rfl
theorem g_1 : tab.gk 1 = .bt := rfl
theorem g_2 : tab.gk 2 = .fn 3 false := rfl
theorem g_3 : tab.gk 3 = .fn 4 false := rfl
theorem g_4 : tab.gk 4 = .bt := rfl
theorem g_5 : tab.gk 5 = .fn 1 false := rfl
theorem g_6 : tab.gk 6 = .bt := rfl
theorem g_7 : tab.gk 7 = .fn 0 false := rfl
theorem g_8 : tab.gk 8 = .fn 5 false := rfl
theorem g_9 : tab.gk 9 = .dat (.tuple [.str "quote", .str "m\x61cro"]) := rfl
theorem g_10 : tab.gk 10 = .fn 8 false := rfl
theorem g_11 : tab.gk 11 = .bt := rfl
theorem g_12 : tab.gk 12 = .fn 13 false := rfl
theorem g_13 : tab.gk 13 = .fn 14 false := rfl
theorem g_14 : tab.gk 14 = .fn 10 false := rfl
theorem g_15 : tab.gk 15 = .dat (.tuple [.str "bottom"]) := rfl
theorem g_16 : tab.gk 16 = .dat (.tuple [.str "name", .str "Any", .tuple []]) := rfl
theorem g_17 : tab.gk 17 = .fn 2 false := rfl
theorem g_18 : tab.gk 18 = .cls 2 17 := rfl
theorem g_19 : tab.gk 19 = .fn 18 true := rfl
theorem g_20 : tab.gk 20 = .fn 19 false := rfl
theorem g_21 : tab.gk 21 = .fn 20 false := rfl
theorem g_22 : tab.gk 22 = .fn 9 false := rfl
theorem g_23 : tab.gk 23 = .dat (.str "new") := rfl
theorem g_24 : tab.gk 24 = .fn 29 false := rfl
theorem g_25 : tab.gk 25 = .fn 27 false := rfl
theorem g_26 : tab.gk 26 = .fn 28 false := rfl
theorem g_27 : tab.gk 27 = .fn 31 false := rfl
theorem g_28 : tab.gk 28 = .fn 26 false := rfl
theorem g_29 : tab.gk 29 = .fn 32 false := rfl
theorem g_30 : tab.gk 30 = .fn 25 false := rfl
theorem g_31 : tab.gk 31 = .fn 34 false := rfl
theorem g_32 : tab.gk 32 = .bt := rfl
theorem g_33 : tab.gk 33 = .fn 33 false := rfl
theorem g_34 : tab.gk 34 = .fn 11 false := rfl
theorem g_35 : tab.gk 35 = .cls 3 21 := rfl
theorem g_36 : tab.gk 36 = .cls 1 15 := rfl
theorem g_37 : tab.gk 37 = .fn 36 false := rfl
theorem g_38 : tab.gk 38 = .fn 37 false := rfl
theorem g_39 : tab.gk 39 = .fn 35 false := rfl
theorem g_40 : tab.gk 40 = .fn 30 false := rfl
theorem g_41 : tab.gk 41 = .fn 12 false := rfl
theorem g_42 : tab.gk 42 = .dat (.tuple [.str "nothing"]) := rfl
theorem g_43 : tab.gk 43 = .bt := rfl
theorem g_44 : tab.gk 44 = .fn 41 false := rfl
theorem g_45 : tab.gk 45 = .bt := rfl
theorem g_46 : tab.gk 46 = .fn 40 false := rfl
theorem g_47 : tab.gk 47 = .fn 45 false := rfl
theorem g_48 : tab.gk 48 = .bt := rfl
theorem g_49 : tab.gk 49 = .fn 49 false := rfl
theorem g_50 : tab.gk 50 = .bt := rfl
theorem g_51 : tab.gk 51 = .fn 38 false := rfl
theorem g_52 : tab.gk 52 = .cls 0 6 := rfl
theorem g_53 : tab.gk 53 = .fn 39 true := rfl
theorem g_54 : tab.gk 54 = .fn 42 false := rfl
theorem g_55 : tab.gk 55 = .fn 44 false := rfl
theorem g_56 : tab.gk 56 = .fn 43 false := rfl
theorem g_57 : tab.gk 57 = .fn 50 false := rfl
theorem g_58 : tab.gk 58 = .fn 48 false := rfl
theorem g_59 : tab.gk 59 = .fn 46 false := rfl
theorem g_60 : tab.gk 60 = .fn 47 false := rfl
theorem a_0 : tab.ak 0 = .plain := rfl
theorem a_1 : tab.ak 1 = .split := rfl
theorem a_2 : tab.ak 2 = .get := rfl
theorem a_3 : tab.ak 3 = .plain := rfl
theorem a_4 : tab.ak 4 = .plain := rfl
theorem a_5 : tab.ak 5 = .plain := rfl
theorem a_6 : tab.ak 6 = .own 0 7 := rfl
theorem a_7 : tab.ak 7 = .append := rfl
theorem a_8 : tab.ak 8 = .plain := rfl
theorem a_9 : tab.ak 9 = .own 3 23 := rfl
theorem a_10 : tab.ak 10 = .plain := rfl
theorem a_11 : tab.ak 11 = .plain := rfl
theorem a_12 : tab.ak 12 = .plain := rfl
theorem a_13 : tab.ak 13 = .plain := rfl
theorem a_14 : tab.ak 14 = .plain := rfl
theorem a_15 : tab.ak 15 = .own 3 22 := rfl
theorem a_16 : tab.ak 16 = .own 3 24 := rfl
theorem a_17 : tab.ak 17 = .extend := rfl
theorem a_18 : tab.ak 18 = .pop := rfl
theorem a_19 : tab.ak 19 = .own 1 16 := rfl
theorem a_20 : tab.ak 20 = .count := rfl
noncomputable abbrev t (x : String) : Str := Str.ofString x
noncomputable abbrev s (x : String) : PyData := .str (Str.ofString x)
noncomputable abbrev Kx := Option (List PyData)
noncomputable def kd : Kx → PyData
  | none => .none
  | some ts => .tuple ts
inductive Ks (α : Type) where | n0 | n1 (a : α) | n2 (a b : α) | n3 (a b c : α)
noncomputable def Ks.fl {α β : Type} (f : String → α → β) : Ks α → List β
  | .n0 => []
  | .n1 a => [f "f0" a]
  | .n2 a b => [f "f0" a, f "f1" b]
  | .n3 a b c => [f "f0" a, f "f1" b, f "f2" c]
noncomputable def Ks.map {α β : Type} (f : α → β) : Ks α → Ks β
  | .n0 => .n0
  | .n1 a => .n1 (f a)
  | .n2 a b => .n2 (f a) (f b)
  | .n3 a b c => .n3 (f a) (f b) (f c)
inductive Sh where | non | sym (m : Str) | cur (a b : Str)
noncomputable def Sh.kx : Sh → Kx
  | .non => none
  | .sym m => some [s "sym", .str m]
  | .cur a b => some [s "expr", s "curly", .tuple [pS a, pS b]]
noncomputable def fv (n : String) (k : Kx) : PyData := .tuple [s n, kd k]
noncomputable def ft (n : String) : Kx → PyData
  | none => pS (t n)
  | some ts => pE (t "::") [pS (t n), .tuple ts]
noncomputable def cv (n : String) : Kx → PyData
  | none => pS (t n)
  | some ts => pE (t "call") [pV "fun" (s "convert"), .tuple ts, pS (t n)]
noncomputable def pl {α : Type} (n : String) (_ : α) : PyData := pS (t n)
inductive Vc where | v0 | v1 (u : Bool) | v2 (u w : Bool)
noncomputable def vt (n : String) : Bool → PyData
  | false => pS (t n)
  | true => pE (t "<:") [pS (t n), pS (t "Integer")]
noncomputable def Vc.trees : Vc → List PyData
  | .v0 => []
  | .v1 u => [vt "T" u]
  | .v2 u w => [vt "T" u, vt "S" w]
noncomputable def Vc.many : Vc → Int
  | .v0 => 0
  | .v1 _ => 1
  | .v2 _ _ => 2
noncomputable abbrev tyV (x : PyData) : PyData := pV "type" x
noncomputable abbrev anyT : PyData := tyV (.tuple [s "name", s "Any", .tuple []])
noncomputable abbrev varT (n : String) : PyData := tyV (.tuple [s "var", s n])
noncomputable def Vc.tb : Vc → List (Str × PyData)
  | .v0 => []
  | .v1 _ => [(t "T", varT "T.1")]
  | .v2 _ _ => [(t "T", varT "T.1"), (t "S", varT "S.2")]
noncomputable def Vc.st : Vc → List (Str × PyData)
  | .v0 => []
  | .v1 _ => [(t "T", s "T.1")]
  | .v2 _ _ => [(t "T", s "T.1"), (t "S", s "S.2")]
noncomputable def up : Bool → PyData
  | false => anyT
  | true => pS (t "Integer")
noncomputable def Vc.bnds : Vc → List PyData
  | .v0 => []
  | .v1 u => [.tuple [s "T.1", tyV (.tuple [s "bottom"]), up u]]
  | .v2 u w => [.tuple [s "T.1", tyV (.tuple [s "bottom"]), up u], .tuple [s "S.2", tyV (.tuple [s "bottom"]), up w]]
noncomputable def Vc.rows : Vc → List PyData
  | .v0 => []
  | .v1 u => [pV "sym" (s "T.1"), tyV (.tuple [s "bottom"]), up u]
  | .v2 u w => [pV "sym" (s "T.1"), tyV (.tuple [s "bottom"]), up u, pV "sym" (s "S.2"), tyV (.tuple [s "bottom"]), up w]
inductive Ab where | non | sh | shT
noncomputable def Ab.due (v : Vc) : Ab → PyData
  | .non => anyT
  | .sh => pS (t "Shape")
  | .shT => pE (t "curly") [pS (t "Shape"), match v with | .v0 => pS (t "T") | _ => varT "T.1"]
noncomputable def Ab.attr : Ab → PyData
  | .non => anyT
  | .sh => pS (t "Shape")
  | .shT => pE (t "curly") [pS (t "Shape"), pS (t "T")]
noncomputable abbrev P0 : PyData := pS (t "P")
noncomputable def Vc.syms : Vc → List PyData
  | .v0 => []
  | .v1 _ => [pS (t "T")]
  | .v2 _ _ => [pS (t "T"), pS (t "S")]
noncomputable def Vc.whole (v : Vc) : PyData := match v with
  | .v0 => P0
  | v => pE (t "curly") (P0 :: v.syms)
noncomputable def Vc.head (v : Vc) : PyData := match v with
  | .v0 => P0
  | v => pE (t "curly") (P0 :: v.trees)
noncomputable def Vc.names : Vc → List PyData
  | .v0 => []
  | .v1 _ => [s "T"]
  | .v2 _ _ => [s "T", s "S"]
noncomputable def hdT (v : Vc) : Ab → PyData
  | .non => v.head
  | a => pE (t "<:") [v.head, a.attr]
noncomputable def pk (tb : List (Str × PyData)) : Sh → PyData
  | .non => anyT
  | .sym m => (look tb m).getD (pS m)
  | .cur a b => pE (t "curly") [(look tb a).getD (pS a), (look tb b).getD (pS b)]
noncomputable def endR (tb : List (Str × PyData)) (ks : Ks Sh) : List PyData := (ks.fl fun n k => [pV "sym" (s n), pk tb k]).flatten
noncomputable abbrev bi (n : String) (ps : List PyData) : PyData := pE (t "call") (pV "builtin" (s n) :: ps)
noncomputable abbrev boolT (b : Bool) : PyData := .tuple [s "bool", .bool b]
noncomputable def begD (v : Vc) (a : Ab) (b : Bool) : PyData := bi "begin_kind" ([pV "sym" (s "P"), boolT b, boolT false, a.due v] ++ v.rows)
noncomputable def endD (tb : List (Str × PyData)) (k : Ks Sh) : PyData := bi "end_kind" (pV "sym" (s "P") :: endR tb k)
noncomputable abbrev cSup (v : Vc) : Cell := .ins 0 [(0, .d (.int v.many))]
noncomputable abbrev cDec (b : Bool) : Cell := .ins 3 [(11, .d (.bool b)), (12, .o 2), (13, .o 3), (14, .o 4)]
noncomputable abbrev cHd (v : Vc) (a : Ab) : Cell := .ins 2 [(8, .d (s "P")), (9, .d (.tuple v.trees)), (10, .d a.attr)]
noncomputable abbrev cVar : Cell := .ins 1 [(3, .o 6), (4, .o 7), (5, .o 8)]
inductive Ft where | non | dup | fn | odd
noncomputable def Qf : PyData := pE (t "function") [pE (t "call") [pS (t "Q"), pS (t "a")], pS (t "a")]
noncomputable def Ft.rows : Ft → List PyData
  | .non => []
  | .dup => [pS (t "f0")]
  | .fn => [Qf]
  | .odd => [pI 4]
noncomputable def Ft.mks : Ft → List PyData
  | .fn => [Qf]
  | _ => []
noncomputable abbrev Mk := Option (PyData × PyData)
noncomputable def mkR : Mk → List PyData
  | none => []
  | some (h, b) => [pE (t "function") [h, b]]
noncomputable def orK (j : Nat) (G : List V → Sg → Out V) (B : Orc) : Orc := fun i as σ => if i = j then G as σ else B i as σ
theorem orK_eq (j : Nat) (B : Orc) : orK j (B j) B = B := by
  funext i as σ
  unfold orK
  by_cases h : i = j
  · subst h; rw [if_pos rfl]
  · rw [if_neg h]
theorem by2 {β : Type} {B : Orc} {j : Nat} {as : List V} {σ : Sg} {A : Out V} (e : B j as σ = A) (Φ : Orc → β) (h1 : ∀ G, Φ (orK j G B) = Φ (orK j (fun _ _ => G as σ) B)) {R : β} (h2 : Φ (orK j (fun _ _ => A) B) = R) : Φ B = R := by
  have := h1 (B j)
  rw [orK_eq, e] at this
  exact this.trans h2
theorem or_ne {B : Orc} {i j : Nat} {G : List V → Sg → Out V} {as : List V} {σ : Sg} {A : Out V} (e : B i as σ = A) (h : (i == j) = false) : orK j G B i as σ = A := by
  unfold orK
  rw [if_neg (by rintro rfl; simp at h)]; exact e
theorem by3 {β : Type} {B : Orc} {j : Nat} {as : List V} {σ : Sg} {A : Out V} (e : B j as σ = A) (Φ : Orc → β) (h1 : ∀ (G : List V → Sg → Out V) (B : Orc), Φ (orK j G B) = Φ (orK j (fun _ _ => G as σ) B)) {R : β} (h2 : Φ (orK j (fun _ _ => A) B) = R) : Φ B = R := by2 e Φ (fun G => h1 G B) h2
theorem by3c {β : Type} {B : Orc} (C : Orc → Orc) {j : Nat} {as : List V} {σ : Sg} {A : Out V} (e : C B j as σ = A) (Φ : Orc → β) (h1 : ∀ (G : List V → Sg → Out V) (B : Orc), Φ (orK j G (C B)) = Φ (orK j (fun _ _ => G as σ) (C B))) {R : β} (h2 : Φ (orK j (fun _ _ => A) (C B)) = R) : Φ (C B) = R := by2 e Φ (fun G => h1 G B) h2
theorem by4 {β : Type} {B : Orc} {j j' : Nat} {as as' : List V} {σ σ' : Sg} {A A' : Out V} (e : B j as σ = A) (e' : B j' as' σ' = A') (hn : (j' == j) = false) (Φ : Orc → β)
    (h1 : ∀ (G : List V → Sg → Out V) (B : Orc), Φ (orK j G B) = Φ (orK j (fun _ _ => G as σ) B))
    (h1' : ∀ (G : List V → Sg → Out V) (B : Orc), Φ (orK j' G (orK j (fun _ _ => A) B)) = Φ (orK j' (fun _ _ => G as' σ') (orK j (fun _ _ => A) B)))
    {R : β} (h2 : Φ (orK j' (fun _ _ => A') (orK j (fun _ _ => A) B)) = R) : Φ B = R :=
  by3 e Φ h1 (by3c (orK j fun _ _ => A) (or_ne e' hn) Φ h1' h2)
theorem L_of {α β : Type} {l : List α} (c : ∀ a, a ∈ l) {f g : α → β} (h : l.map f = l.map g) (a : α) : f a = g a := List.map_inj_left.mp h a (c a)
noncomputable def lB : List Bool := [false, true]
noncomputable def lV : List Vc := [.v0, .v1 false, .v1 true, .v2 false false, .v2 false true, .v2 true false, .v2 true true]
noncomputable def lA : List Ab := [.non, .sh, .shT]
noncomputable def lF : List Ft := [.non, .dup, .fn, .odd]
noncomputable def lX (t : List PyData) : List Kx := [none, some t]
noncomputable def lS (q : Str × Str × Str) : List Sh := [.non, .sym q.1, .cur q.2.1 q.2.2]
noncomputable def lM (q : PyData × PyData) : List Mk := [none, some q]
theorem at_mem {α : Type} {l : List α} {a : α} (i : Nat) (h : l[i]? = some a) : a ∈ l := List.mem_of_getElem? h
theorem cB : ∀ a, a ∈ lB
  | false => at_mem 0 rfl
  | true => at_mem 1 rfl
theorem cV : ∀ a, a ∈ lV
  | .v0 => at_mem 0 rfl
  | .v1 false => at_mem 1 rfl
  | .v1 true => at_mem 2 rfl
  | .v2 false false => at_mem 3 rfl
  | .v2 false true => at_mem 4 rfl
  | .v2 true false => at_mem 5 rfl
  | .v2 true true => at_mem 6 rfl
theorem cA : ∀ a, a ∈ lA
  | .non => at_mem 0 rfl
  | .sh => at_mem 1 rfl
  | .shT => at_mem 2 rfl
theorem cF : ∀ a, a ∈ lF
  | .non => at_mem 0 rfl
  | .dup => at_mem 1 rfl
  | .fn => at_mem 2 rfl
  | .odd => at_mem 3 rfl
theorem cX (x : Kx) : ∃ t, x ∈ lX t := by
  cases x with
  | none => exact ⟨[], at_mem 0 rfl⟩
  | some t => exact ⟨t, at_mem 1 rfl⟩
theorem cS (x : Sh) : ∃ t, x ∈ lS t := by
  cases x with
  | non => exact ⟨(t "", t "", t ""), at_mem 0 rfl⟩
  | sym m => exact ⟨(m, m, m), at_mem 1 rfl⟩
  | cur a b => exact ⟨(a, a, b), at_mem 2 rfl⟩
theorem cM (x : Mk) : ∃ t, x ∈ lM t := by
  cases x with
  | none => exact ⟨(.none, .none), at_mem 0 rfl⟩
  | some t => exact ⟨t, at_mem 1 rfl⟩
structure KsL (β : Type) where
  z : β
  a : List β
  b : List (List β)
  c : List (List (List β))
noncomputable def aK {α β : Type} (l m n : List α) (f : Ks α → β) : KsL β := ⟨f .n0, l.map fun a => f (.n1 a), l.map fun a => m.map fun b => f (.n2 a b), l.map fun a => m.map fun b => n.map fun c => f (.n3 a b c)⟩
theorem aK_of {α β τ : Type} {L : τ → List α} (c : ∀ a, ∃ t, a ∈ L t) {f g : Ks α → β} (d : τ) (h : ∀ t u w, aK (L t) (L u) (L w) f = aK (L t) (L u) (L w) g) (ks : Ks α) : f ks = g ks := by
  cases ks with
  | n0 => exact congrArg KsL.z (h d d d)
  | n1 a =>
    obtain ⟨t, ha⟩ := c a
    exact List.map_inj_left.mp (congrArg KsL.a (h t d d)) a ha
  | n2 a b =>
    obtain ⟨t, ha⟩ := c a
    obtain ⟨u, hb⟩ := c b
    exact List.map_inj_left.mp (List.map_inj_left.mp (congrArg KsL.b (h t u d)) a ha) b hb
  | n3 a b e =>
    obtain ⟨t, ha⟩ := c a
    obtain ⟨u, hb⟩ := c b
    obtain ⟨w, he⟩ := c e
    exact List.map_inj_left.mp (List.map_inj_left.mp (List.map_inj_left.mp (congrArg KsL.c (h t u w)) a ha) b hb) e he
section
variable {β : Type}
theorem V_of {f g : Vc → β} (h : lV.map f = lV.map g) : ∀ v, f v = g v := L_of cV h
theorem B_of {f g : Bool → β} (h : lB.map f = lB.map g) : ∀ v, f v = g v := L_of cB h
theorem F_of {f g : Ft → β} (h : lF.map f = lF.map g) : ∀ v, f v = g v := L_of cF h
theorem X_of {f g : Ks Kx → β} (h : ∀ t u w, aK (lX t) (lX u) (lX w) f = aK (lX t) (lX u) (lX w) g) : ∀ ks, f ks = g ks := aK_of cX [] h
theorem S_of {f g : Ks Sh → β} (h : ∀ t u w, aK (lS t) (lS u) (lS w) f = aK (lS t) (lS u) (lS w) g) : ∀ ks, f ks = g ks := aK_of cS (t "", t "", t "") h
theorem P_of {f g : Ks Bool → β} (h : aK lB lB lB f = aK lB lB lB g) : ∀ ks, f ks = g ks := aK_of (L := fun _ : Unit => lB) (fun a => ⟨(), cB a⟩) () fun _ _ _ => h
theorem M_of {f g : Mk → β} (h : ∀ t, (lM t).map f = (lM t).map g) : ∀ m, f m = g m := fun m => (cM m).elim fun t ht => List.map_inj_left.mp (h t) m ht
theorem VA_of {f g : Vc → Ab → β} (h : (lV.map fun v => lA.map (f v)) = (lV.map fun v => lA.map (g v))) : ∀ v a, f v a = g v a := fun v => L_of cA (L_of cV h v)
theorem VX_of {f g : Vc → Ks Kx → β} (h : ∀ t u w, (lV.map fun v => aK (lX t) (lX u) (lX w) (f v)) = (lV.map fun v => aK (lX t) (lX u) (lX w) (g v))) : ∀ v ks, f v ks = g v ks := fun v => X_of fun t u w => V_of (h t u w) v
theorem VB_of {f g : Vc → Bool → β} (h : (lV.map fun v => lB.map (f v)) = (lV.map fun v => lB.map (g v))) : ∀ v a, f v a = g v a := fun v => B_of (V_of h v)
theorem Z_of {f g : Int → β} {N : Nat} (h : ((List.range N).map fun k : Nat => f k) = ((List.range N).map fun k : Nat => g k)) (m : Int) (h0 : 0 ≤ m) (h1 : m < N) : f m = g m := by
  obtain ⟨k, rfl⟩ := Int.eq_ofNat_of_zero_le h0
  exact List.map_inj_left.mp h k (List.mem_range.mpr (Int.ofNat_lt.mp h1))
theorem XMF_of {f g : Ks Kx → Mk → Ft → β} (h : ∀ t u w q, (aK (lX t) (lX u) (lX w) fun ks => (lM q).map fun m => lF.map (f ks m)) = (aK (lX t) (lX u) (lX w) fun ks => (lM q).map fun m => lF.map (g ks m))) : ∀ ks m k, f ks m k = g ks m k :=
  fun ks m => F_of (M_of (f := fun m => lF.map (f ks m)) (g := fun m => lF.map (g ks m)) (fun q => X_of (f := fun ks => (lM q).map fun m => lF.map (f ks m)) (g := fun ks => (lM q).map fun m => lF.map (g ks m)) (fun t u w => h t u w q) ks) m)
end
noncomputable def Vc.isV0 : Vc → Bool
  | .v0 => true
  | _ => false
noncomputable def lN : List Vc := [.v1 false, .v1 true, .v2 false false, .v2 false true, .v2 true false, .v2 true true]
theorem cN : ∀ a, Vc.isV0 a = false → a ∈ lN
  | .v1 false, _ => at_mem 0 rfl
  | .v1 true, _ => at_mem 1 rfl
  | .v2 false false, _ => at_mem 2 rfl
  | .v2 false true, _ => at_mem 3 rfl
  | .v2 true false, _ => at_mem 4 rfl
  | .v2 true true, _ => at_mem 5 rfl
theorem N_of {β : Type} {f g : Vc → β} (h : lN.map f = lN.map g) (v : Vc) (hv : v.isV0 = false) : f v = g v := List.map_inj_left.mp h v (cN v hv)
theorem NX_of {β : Type} {f g : Vc → Ks Kx → β} (h : ∀ t u w, (lN.map fun v => aK (lX t) (lX u) (lX w) (f v)) = (lN.map fun v => aK (lX t) (lX u) (lX w) (g v))) (v : Vc) (hv : v.isV0 = false) : ∀ ks, f v ks = g v ks := X_of fun t u w => N_of (h t u w) v hv
noncomputable def tF (F : Orc) : X → Vs → Sg → Out (Option PyData)
  | .comp elt _ _ _ _ ifs _ _ _ => fun vs σ => (evC tab F vs ifs σ).bind fun b σ => match b with
    | true => (ev tab F vs elt σ).bind fun v σ => (esc v σ).bind fun y σ => .ok (some y) σ
    | false => .ok none σ
  | _ => fun _ _ => .stuck
noncomputable def tT : X → Tg
  | .comp _ tg .. => tg
  | _ => .one 0 default
noncomputable def X.lhs : X → X
  | .cmp _ a _ _ => a
  | _ => .dead default
theorem BBP_of {β : Type} {f g : Bool → Bool → Ks Bool → β} (h : (lB.map fun a => lB.map fun b => aK lB lB lB (f a b)) = (lB.map fun a => lB.map fun b => aK lB lB lB (g a b))) : ∀ a b ps, f a b ps = g a b ps := fun a b => P_of (L_of cB (L_of cB h a) b)
theorem BP_of {β : Type} {f g : Bool → Ks Bool → β} (h : (lB.map fun b => aK lB lB lB (f b)) = (lB.map fun b => aK lB lB lB (g b))) : ∀ b ps, f b ps = g b ps := fun b => P_of (L_of cB h b)
theorem turns1 {f : Vs → Sg → Out (Option PyData)} {tg : Tg} {vs vs' : Vs} {x y : PyData} {r ys : List PyData} {σ σ' σ'' : Sg} (hb : bindT vs tg x = some vs') (h : f vs' σ = .ok (some y) σ') (h2 : turns f tg vs' r σ' = .ok ys σ'') : turns f tg vs (x :: r) σ = .ok (y :: ys) σ'' := by
  show (match bindT vs tg x with | none => Out.stuck | some vs' => (f vs' σ).bind fun y σ => (turns f tg vs' r σ).bind fun ys σ => .ok (match y with | some y => y :: ys | none => ys) σ) = _
  rw [hb]
  show (f vs' σ).bind _ = _
  rw [h]
  show (turns f tg vs' r σ').bind _ = _
  rw [h2]; rfl
theorem turns0 {f : Vs → Sg → Out (Option PyData)} {tg : Tg} {vs vs' : Vs} {x : PyData} {r ys : List PyData} {σ σ' σ'' : Sg} (hb : bindT vs tg x = some vs') (h : f vs' σ = .ok none σ') (h2 : turns f tg vs' r σ' = .ok ys σ'') : turns f tg vs (x :: r) σ = .ok ys σ'' := by
  show (match bindT vs tg x with | none => Out.stuck | some vs' => (f vs' σ).bind fun y σ => (turns f tg vs' r σ).bind fun ys σ => .ok (match y with | some y => y :: ys | none => ys) σ) = _
  rw [hb]
  show (f vs' σ).bind _ = _
  rw [h]
  show (turns f tg vs' r σ').bind _ = _
  rw [h2]; rfl
theorem goes1 {f : Vs → Sg → Out Fl} {tg : Tg} {x : PyData} {r : List PyData} {vs vs' vs'' : Vs} {σ σ' : Sg} (hb : bindT vs tg x = some vs') (h : f vs' σ = .ok (.next vs'') σ') : goes f tg (x :: r) vs σ = goes f tg r vs'' σ' := by
  show (match bindT vs tg x with | none => Out.stuck | some vs' => (f vs' σ).bind fun fl σ => match fl with | .next vs => goes f tg r vs σ | .ret v => .ok (.ret v) σ) = _
  rw [hb]
  show (f vs' σ).bind _ = _
  rw [h]; rfl
theorem goesx {f : Vs → Sg → Out Fl} {tg : Tg} {x : PyData} {r : List PyData} {vs vs' : Vs} {σ : Sg} (hb : bindT vs tg x = some vs') (h : f vs' σ = .ex) : goes f tg (x :: r) vs σ = .ex := by
  show (match bindT vs tg x with | none => Out.stuck | some vs' => (f vs' σ).bind fun fl σ => match fl with | .next vs => goes f tg r vs σ | .ret v => .ok (.ret v) σ) = _
  rw [hb]
  show (f vs' σ).bind _ = _
  rw [h]; rfl
noncomputable def S.forB : S → SL
  | .for_ _ _ _ _ a _ => a
  | _ => .nil
noncomputable def S.forT : S → Tg
  | .for_ tg _ _ _ _ _ => tg
  | _ => .one 0 default
theorem r_Variables (n : Nat) (v : Vc) (c1 c2 c3 c4 : Cell) : runN tab fns (n + 5) 15 [.o 5, .d (.tuple v.trees), .o 0] [.ins 0 [(0, .d (.int 0))], c1, c2, c3, c4, .ins 1 []] = .ok (.d .none) [cSup v, c1, c2, c3, c4, cVar, .dct v.st, .dct v.tb, .lst false v.bnds] := by revert v; exact V_of (by kernel_rfl)
theorem r_begun (n : Nat) (v : Vc) (a : Ab) (b : Bool) (c0 c1 c3 c4 c6 : Cell) : runN tab fns (n + 6) 36 [.o 2, .d (.bool b), .d (.bool false), .o 5] [c0, c1, cHd v a, c3, c4, cVar, c6, .dct v.tb, .lst false v.bnds] = .ok (.d (begD v a b)) [c0, c1, cHd v a, c3, c4, cVar, c6, .dct v.tb, .lst true v.bnds, .lst false v.rows] := by revert v a; exact VA_of (by kernel_rfl)
theorem r_whole (n : Nat) (v : Vc) (a : Ab) (b : Bool) (c0 : Cell) (τ : Sg) : runN tab fns (n + 5) 24 [.o 1] (c0 :: cDec b :: cHd v a :: τ) = .ok (.d v.whole) (c0 :: cDec b :: cHd v a :: τ) := by revert v; exact V_of (by kernel_rfl)
theorem r_variables (n : Nat) (v : Vc) (a : Ab) (b : Bool) (c0 : Cell) (τ : Sg) : runN tab fns (n + 4) 23 [.o 1] (c0 :: cDec b :: cHd v a :: τ) = .ok (.d (.list v.names)) (c0 :: cDec b :: cHd v a :: τ) := by revert v; exact V_of (by kernel_rfl)
theorem r_ended (n : Nat) (v : Vc) (a : Ab) (ks : Ks Sh) (b : Bool) (tb : List (Str × PyData)) (c0 c4 c6 c8 c9 : Cell) : runN tab fns (n + 6) 37 [.o 1, .o 5] [c0, cDec b, cHd v a, .lst false ((ks.map Sh.kx).fl fv), c4, cVar, c6, .dct tb, c8, c9] = .ok (.d (endD tb ks)) [c0, cDec b, cHd v a, .lst true ((ks.map Sh.kx).fl fv), c4, cVar, c6, .dct tb, c8, c9, .lst false (endR tb ks)] := by revert ks; exact S_of fun _ _ _ => by kernel_rfl
noncomputable def SL.hd : SL → S
  | .nil => .dead default
  | .cons a _ => a
noncomputable def SL.tl : SL → SL
  | .nil => .nil
  | .cons _ r => r
theorem seq_next {F : Orc} {a : S} {r : SL} {vs vs' : Vs} {σ σ' : Sg} (h : exS tab F a vs σ = .ok (.next vs') σ') : exL tab F (.cons a r) vs σ = exL tab F r vs' σ' := by
  rw [q_exL_1, h]; rfl
theorem seq_ex {F : Orc} {a : S} {r : SL} {vs : Vs} {σ : Sg} (h : exS tab F a vs σ = .ex) : exL tab F (.cons a r) vs σ = .ex := by
  rw [q_exL_1, h]; rfl
noncomputable def structT (v : Vc) (a : Ab) (ks : Ks Kx) (m : Mk) (b : Bool) (f : Ft) : PyData := pE (t "struct") [boolT b, hdT v a, pE (t "block") (ks.fl ft ++ mkR m ++ f.rows)]
theorem dec1 (n : Nat) (b : Bool) (c0 : Cell) (x y : PyData) : exS tab (runN tab fns n) f_Declared_init.body.hd [some (.o 1), some (.d (pE (t "struct") [boolT b, x, y])), none, none] [c0, .ins 3 []] = .ok (.next [some (.o 1), some (.d (pE (t "struct") [boolT b, x, y])), none, none]) [c0, .ins 3 [(11, .d (.bool b))]] := by
  cases b <;> kernel_rfl
theorem dec2 (n : Nat) (v : Vc) (a : Ab) (c0 : Cell) (b : V) (x y : PyData) : exS tab (runN tab fns (n + 4)) f_Declared_init.body.tl.hd [some (.o 1), some (.d (pE (t "struct") [x, hdT v a, y])), none, none] [c0, .ins 3 [(11, b)]] = .ok (.next [some (.o 1), some (.d (pE (t "struct") [x, hdT v a, y])), none, none]) [c0, .ins 3 [(11, b), (12, .o 2)], cHd v a] := by
  revert v a; exact VA_of (by kernel_rfl)
noncomputable def decO (c2 : Cell) (ks : Ks Kx) (m : Mk) (b : Bool) (f : Ft) (c0 : Cell) : Out V :=
  let good : Out V := .ok (.d .none) [c0, cDec b, c2, .lst false (ks.fl fv), .lst false (mkR m ++ f.mks)]
  match f with
  | .non => good
  | .fn => good
  | .odd => .ex
  | .dup => match ks with
    | .n0 => .ok (.d .none) [c0, cDec b, c2, .lst false [fv "f0" none], .lst false (mkR m)]
    | _ => .ex
theorem dec3 (n : Nat) (ks : Ks Kx) (m : Mk) (b : Bool) (f : Ft) (c0 c2 : Cell) (x y : PyData) : fin (exL tab (runN tab fns (n + 4)) f_Declared_init.body.tl.tl [some (.o 1), some (.d (pE (t "struct") [x, y, pE (t "block") (ks.fl ft ++ mkR m ++ f.rows)])), none, none] [c0, .ins 3 [(11, .d (.bool b)), (12, .o 2)], c2]) = decO c2 ks m b f c0 := by
  revert ks m f; exact XMF_of fun _ _ _ _ => by kernel_rfl
theorem r_Declared (n : Nat) (v : Vc) (a : Ab) (ks : Ks Kx) (m : Mk) (b : Bool) (f : Ft) (c0 : Cell) : runN tab fns (n + 5) 21 [.o 1, .d (structT v a ks m b f)] [c0, .ins 3 []] = decO (cHd v a) ks m b f c0 := by
  rw [run_at (f := f_Declared_init) rfl _ _ rfl]
  exact (congrArg fin ((seq_next (dec1 _ b c0 _ _)).trans (seq_next (dec2 n v a c0 _ _ _)))).trans (dec3 n ks m b f c0 _ _ _)
noncomputable def S.cnd : S → X
  | .iff c _ _ _ => c
  | _ => .dead default
noncomputable def S.thn : S → SL
  | .iff _ a _ _ => a
  | _ => .nil
noncomputable def S.tryB : S → SL
  | .try_ a _ _ _ _ _ _ => a
  | _ => .nil
noncomputable def S.els : S → SL
  | .iff _ _ b _ => b
  | _ => .nil
theorem if_t {F : Orc} {c : X} {a b : SL} {p : Pos} {vs : Vs} {σ σ' : Sg} (h : ev tab F vs c σ = .ok (.d (.bool true)) σ') : exS tab F (.iff c a b p) vs σ = exL tab F a vs σ' := by
  rw [q_exS_6, h]; rfl
theorem if_f {F : Orc} {c : X} {a b : SL} {p : Pos} {vs : Vs} {σ σ' : Sg} (h : ev tab F vs c σ = .ok (.d (.bool false)) σ') : exS tab F (.iff c a b p) vs σ = exL tab F b vs σ' := by
  rw [q_exS_6, h]; rfl
theorem seq_r {F : Orc} {a : S} {r : SL} {vs : Vs} {σ σ' : Sg} {v : V} (h : exS tab F a vs σ = .ok (.ret v) σ') : exL tab F (.cons a r) vs σ = .ok (.ret v) σ' := by
  rw [q_exL_1, h]; rfl
noncomputable def fnT (callee : PyData) (args : List PyData) (vars : List PyData) (body : PyData) : PyData :=
  pE (t "function") [match vars with | [] => pE (t "call") (callee :: args) | vars => pE (t "where") (pE (t "call") (callee :: args) :: vars), body]
noncomputable def newT (k : PyData) (ps : List PyData) : PyData := bi "new" (k :: ps)
noncomputable def nms : Sh → List PyData
  | .non => []
  | .sym m => [.str m]
  | .cur a b => [.str b, .str a]
noncomputable def told (ks : Ks Sh) : List PyData := (ks.fl fun _ k => nms k).flatten
noncomputable def lastF : Ks Kx → Option V
  | .n0 => none
  | .n1 a => some (.d (fv "f0" a))
  | .n2 _ a => some (.d (fv "f1" a))
  | .n3 _ _ a => some (.d (fv "f2" a))
noncomputable def covers (v : Vc) (l : List PyData) : Bool := v.names.all fun x => l.any fun z => z.eqv x
noncomputable def findT (v : Vc) (ks : Ks Kx) : PyData := fnT P0 (ks.fl ft) v.trees (newT v.whole (ks.fl pl))
noncomputable abbrev bF := f_finding_makers.body
noncomputable def SL.take : Nat → SL → SL
  | 0, _ => .nil
  | _ + 1, .nil => .nil
  | n + 1, .cons a r => .cons a (r.take n)
noncomputable def SL.drop : Nat → SL → SL
  | 0, r => r
  | _ + 1, .nil => .nil
  | n + 1, .cons _ r => r.drop n
theorem seq_take {F : Orc} (k : Nat) (r : SL) {vs vs' : Vs} {σ σ' : Sg} (h : exL tab F (r.take k) vs σ = .ok (.next vs') σ') : exL tab F r vs σ = exL tab F (r.drop k) vs' σ' := by
  induction k generalizing r vs σ with
  | zero => cases h; rfl
  | succ k ih =>
    cases r with
    | nil => cases h; rfl
    | cons a r =>
      have h : (exS tab F a vs σ).bind (fun fl σ => match fl with | .next vs => exL tab F (r.take k) vs σ | .ret v => .ok (.ret v) σ) = .ok (.next vs') σ' := h
      rw [q_exL_1]
      cases h1 : exS tab F a vs σ with
      | stuck => rw [h1] at h; cases h
      | ex => rw [h1] at h; cases h
      | ok fl σ₁ =>
        rw [h1] at h
        cases fl with
        | ret v => cases h
        | next vs₁ => exact ih r h
theorem fm2 (n : Nat) (ks : Ks Sh) (v : Vc) (a : Ab) (b : Bool) (x y : Option V) (c0 c4 c5 c6 c7 c8 c9 c10 : Cell) : exL tab (runN tab fns (n + 3)) (.cons bF.hd (.cons bF.tl.hd .nil)) [some (.o 1), x, y, none, none, none, none, none, none, none] [c0, cDec b, cHd v a, .lst true ((ks.map Sh.kx).fl fv), c4, c5, c6, c7, c8, c9, c10]
    = .ok (.next [some (.o 1), x, y, some (.o 11), lastF (ks.map Sh.kx), none, none, none, none, none]) [c0, cDec b, cHd v a, .lst true ((ks.map Sh.kx).fl fv), c4, c5, c6, c7, c8, c9, c10, .lst false (told ks)] := by
  revert ks; exact S_of fun _ _ _ => by kernel_rfl
noncomputable def nmq : Bool → PyData
  | false => s "T"
  | true => s "S"
theorem fm3 (n : Nat) (v : Vc) (a : Ab) (b : Bool) (L : List PyData) (x y z : Option V) (c0 c3 c4 c5 c6 c7 c8 c9 c10 : Cell) : ev tab (runN tab fns (n + 4)) [some (.o 1), x, y, some (.o 11), z, none, none, none, none, none] bF.tl.tl.hd.cnd [c0, cDec b, cHd v a, c3, c4, c5, c6, c7, c8, c9, c10, .lst false L]
    = .ok (.d (.bool !(covers v L))) [c0, cDec b, cHd v a, c3, c4, c5, c6, c7, c8, c9, c10, .lst false L] := by
  have key : ∀ v : Vc, ev tab (runN tab fns (n + 4)) [some (.o 1), x, y, some (.o 11), z, none, none, none, none, none] bF.tl.tl.hd.cnd [c0, cDec b, cHd v a, c3, c4, c5, c6, c7, c8, c9, c10, .lst false L]
      = ((turns (tF (runN tab fns (n + 4)) bF.tl.tl.hd.cnd.lhs) (tT bF.tl.tl.hd.cnd.lhs) [some (.o 1), x, y, some (.o 11), z, none, none, none, none, none] v.names [c0, cDec b, cHd v a, c3, c4, c5, c6, c7, c8, c9, c10, .lst false L]).bind fun ys σ => .ok (.d (.list ys)) σ).bind fun v σ => (Out.ok (.d (.list [])) σ).bind fun w σ => cmpV .NotEq v w σ := V_of (by kernel_rfl)
  have t1 : ∀ (q : Bool) (p : Option V) (c2 : Cell), tF (runN tab fns (n + 4)) bF.tl.tl.hd.cnd.lhs (putV [some (.o 1), x, y, some (.o 11), z, none, none, p, none, none] 7 (.d (nmq q))) [c0, cDec b, c2, c3, c4, c5, c6, c7, c8, c9, c10, .lst false L]
      = (Out.ok (!(L.any fun z => z.eqv (nmq q))) [c0, cDec b, c2, c3, c4, c5, c6, c7, c8, c9, c10, .lst false L]).bind fun b σ => match b with | true => .ok (some (nmq q)) σ | false => .ok none σ := by
    intro q p c2; revert q; exact B_of (by kernel_rfl)
  refine (key v).trans ?_
  generalize hv : cHd v a = c2
  have eT := t1 false none c2
  have eS := t1 true (some (.d (s "T"))) c2
  clear key t1 hv
  rcases v with _ | u | ⟨u, w⟩
  · rfl
  · have hc : covers (.v1 u) L = ((L.any fun z => z.eqv (s "T")) && true) := rfl
    rw [hc]
    cases h1 : L.any fun z => z.eqv (s "T") with
    | true => rw [show nmq false = s "T" from rfl, h1] at eT; exact (congrArg (fun r => Out.bind (Out.bind r _) _) (turns0 (tg := tT bF.tl.tl.hd.cnd.lhs) (r := []) rfl eT rfl)).trans (by kernel_rfl)
    | false => rw [show nmq false = s "T" from rfl, h1] at eT; exact (congrArg (fun r => Out.bind (Out.bind r _) _) (turns1 (tg := tT bF.tl.tl.hd.cnd.lhs) (r := []) rfl eT rfl)).trans (by kernel_rfl)
  · have hc : covers (.v2 u w) L = ((L.any fun z => z.eqv (s "T")) && ((L.any fun z => z.eqv (s "S")) && true)) := rfl
    rw [hc]
    cases h1 : L.any fun z => z.eqv (s "T") <;> cases h2 : L.any fun z => z.eqv (s "S") <;> rw [show nmq false = s "T" from rfl, h1] at eT <;> rw [show nmq true = s "S" from rfl, h2] at eS
    · exact (congrArg (fun r => Out.bind (Out.bind r _) _) (turns1 (tg := tT bF.tl.tl.hd.cnd.lhs) rfl eT (turns1 (r := []) rfl eS rfl))).trans (by kernel_rfl)
    · exact (congrArg (fun r => Out.bind (Out.bind r _) _) (turns1 (tg := tT bF.tl.tl.hd.cnd.lhs) rfl eT (turns0 (r := []) rfl eS rfl))).trans (by kernel_rfl)
    · exact (congrArg (fun r => Out.bind (Out.bind r _) _) (turns0 (tg := tT bF.tl.tl.hd.cnd.lhs) rfl eT (turns1 (r := []) rfl eS rfl))).trans (by kernel_rfl)
    · exact (congrArg (fun r => Out.bind (Out.bind r _) _) (turns0 (tg := tT bF.tl.tl.hd.cnd.lhs) rfl eT (turns0 (r := []) rfl eS rfl))).trans (by kernel_rfl)
theorem fm4 (n : Nat) (ks : Ks Kx) (v : Vc) (a : Ab) (b : Bool) (y z : Option V) (c0 c4 c5 c6 c7 c8 c9 c10 c11 : Cell) : fin (exL tab (runN tab fns (n + 4)) bF.tl.tl.tl [some (.o 1), some (.d P0), some (.d v.whole), y, z, none, none, none, none, none] [c0, cDec b, cHd v a, .lst true (ks.fl fv), c4, c5, c6, c7, c8, c9, c10, c11])
    = .ok (.d (.list [findT v ks])) [c0, cDec b, cHd v a, .lst true (ks.fl fv), c4, c5, c6, c7, c8, c9, c10, c11] := by
  revert ks; revert v; exact VX_of fun _ _ _ => by kernel_rfl
theorem r_finding (n : Nat) (ks : Ks Sh) (v : Vc) (a : Ab) (b : Bool) (c0 c4 c5 c6 c7 c8 c9 c10 : Cell) : runN tab fns (n + 5) 31 [.o 1, .d P0, .d v.whole] [c0, cDec b, cHd v a, .lst true ((ks.map Sh.kx).fl fv), c4, c5, c6, c7, c8, c9, c10]
    = .ok (.d (.list (if covers v (told ks) then [findT v (ks.map Sh.kx)] else []))) [c0, cDec b, cHd v a, .lst true ((ks.map Sh.kx).fl fv), c4, c5, c6, c7, c8, c9, c10, .lst false (told ks)] := by
  rw [run_at (f := f_finding_makers) rfl _ _ rfl]
  refine (congrArg fin (seq_take 2 bF (fm2 (n + 1) ks v a b _ _ c0 c4 c5 c6 c7 c8 c9 c10))).trans ?_
  cases h : covers v (told ks) with
  | false =>
    refine (congrArg fin (seq_r ((if_t (a := .cons (.ret (.lst .nil ⟨195, 15, 195, 17⟩) ⟨195, 8, 195, 17⟩) .nil) (b := .nil) ((fm3 n v a b (told ks) _ _ _ c0 _ c4 c5 c6 c7 c8 c9 c10).trans (by rw [h]; rfl))).trans (seq_r rfl)))).trans ?_
    rfl
  | true =>
    refine (congrArg fin (seq_next ((if_f (a := .cons (.ret (.lst .nil ⟨195, 15, 195, 17⟩) ⟨195, 8, 195, 17⟩) .nil) (b := .nil) ((fm3 n v a b (told ks) _ _ _ c0 _ c4 c5 c6 c7 c8 c9 c10).trans (by rw [h]; rfl))).trans rfl))).trans ?_
    exact fm4 n (ks.map Sh.kx) v a b _ _ c0 c4 c5 c6 c7 c8 c9 c10 _
noncomputable def Ks.allN : Ks Kx → Bool
  | .n0 => true
  | .n1 a => a.isNone
  | .n2 a b => a.isNone && b.isNone
  | .n3 a b c => a.isNone && b.isNone && c.isNone
noncomputable def tellT (v : Vc) (ks : Ks Kx) : PyData := fnT v.whole (ks.fl pl) v.trees (newT v.whole (ks.fl cv))
noncomputable def defM (v : Vc) (ks : Ks Sh) : List PyData := match v with
  | .v0 => fnT P0 ((ks.map Sh.kx).fl ft) [] (newT P0 ((ks.map Sh.kx).fl pl)) :: (if (ks.map Sh.kx).allN then [] else [fnT P0 ((ks.map Sh.kx).fl pl) [] (newT P0 ((ks.map Sh.kx).fl cv))])
  | v => tellT v (ks.map Sh.kx) :: (if covers v (told ks) then [findT v (ks.map Sh.kx)] else [])
theorem dm0 (n : Nat) (ks : Ks Sh) (a : Ab) (b : Bool) (c0 c4 c5 c6 c7 c8 c9 c10 : Cell) : runN tab fns (n + 6) 30 [.o 1] [c0, cDec b, cHd .v0 a, .lst true ((ks.map Sh.kx).fl fv), c4, c5, c6, c7, c8, c9, c10]
    = .ok (.d (.list (defM .v0 ks))) [c0, cDec b, cHd .v0 a, .lst true ((ks.map Sh.kx).fl fv), c4, c5, c6, c7, c8, c9, c10] := by
  revert ks; exact S_of fun _ _ _ => by kernel_rfl
noncomputable abbrev bD := f_default_makers.body
theorem dm1 (n : Nat) (ks : Ks Kx) (v : Vc) (a : Ab) (b : Bool) (c0 c4 c5 c6 c7 c8 c9 c10 : Cell) : exL tab (runN tab fns (n + 5)) (bD.take 4) [some (.o 1), none, none, none, none, none, none, none, none, none, none, none, none] [c0, cDec b, cHd v a, .lst true (ks.fl fv), c4, c5, c6, c7, c8, c9, c10]
    = .ok (.next [some (.o 1), some (.d P0), some (.d (.tuple v.trees)), some (.o 3), some (.d v.whole), some (.d (.list (ks.fl pl))), some (.d (newT v.whole (ks.fl cv))), none, none, none, none, none, none]) [c0, cDec b, cHd v a, .lst true (ks.fl fv), c4, c5, c6, c7, c8, c9, c10] := by
  revert ks; revert v; exact VX_of fun _ _ _ => by kernel_rfl
theorem dm2 (F : Orc) (v : Vc) (hv : v.isV0 = false) (x y z w p q : Option V) (σ : Sg) : ev tab F [x, y, some (.d (.tuple v.trees)), z, w, p, q, none, none, none, none, none, none] (bD.drop 4).hd.cnd σ = .ok (.d (.bool true)) σ := by
  revert v; exact N_of (by kernel_rfl)
theorem dm3 (n : Nat) (v : Vc) (hv : v.isV0 = false) (ks : Ks Kx) (c : PyData) (x y z : Option V) (σ : Sg) : exS tab (runN tab fns (n + 3)) (bD.drop 4).hd.thn.hd [x, y, some (.d (.tuple v.trees)), z, some (.d v.whole), some (.d (.list (ks.fl pl))), some (.d c), none, none, none, none, none, none] σ
    = .ok (.next [x, y, some (.d (.tuple v.trees)), z, some (.d v.whole), some (.d (.list (ks.fl pl))), some (.d c), some (.d (fnT v.whole (ks.fl pl) v.trees c)), none, none, none, none, none]) σ := by
  revert ks; revert v; exact NX_of fun _ _ _ => by kernel_rfl
theorem dm4 (n : Nat) (v : Vc) (hv : v.isV0 = false) (ks : Ks Sh) (a : Ab) (b : Bool) (d : PyData) (x z w p : Option V) (c0 c4 c5 c6 c7 c8 c9 c10 : Cell) : exL tab (runN tab fns (n + 5)) (bD.drop 4).hd.thn.tl [some (.o 1), some (.d P0), x, z, some (.d v.whole), w, p, some (.d d), none, none, none, none, none] [c0, cDec b, cHd v a, .lst true ((ks.map Sh.kx).fl fv), c4, c5, c6, c7, c8, c9, c10]
    = .ok (.ret (.d (.list (d :: (if covers v (told ks) then [findT v (ks.map Sh.kx)] else []))))) [c0, cDec b, cHd v a, .lst true ((ks.map Sh.kx).fl fv), c4, c5, c6, c7, c8, c9, c10, .lst false (told ks)] := by
  have h := r_finding n ks v a b c0 c4 c5 c6 c7 c8 c9 c10
  cases hc : covers v (told ks) <;> rw [hc] at h <;> exact by2 h (fun F => exL tab F _ _ _) (fun G => by kernel_rfl) (by kernel_rfl)
theorem r_default (n : Nat) (ks : Ks Sh) (v : Vc) (a : Ab) (b : Bool) (c0 c4 c5 c6 c7 c8 c9 c10 : Cell) : ∃ τ, runN tab fns (n + 6) 30 [.o 1] [c0, cDec b, cHd v a, .lst true ((ks.map Sh.kx).fl fv), c4, c5, c6, c7, c8, c9, c10] = .ok (.d (.list (defM v ks))) τ := by
  cases hv : v.isV0 with
  | true =>
    rcases v with _ | u | ⟨u, w⟩
    · exact ⟨_, dm0 n ks a b c0 c4 c5 c6 c7 c8 c9 c10⟩
    · cases hv
    · cases hv
  | false =>
    have h4 := (seq_next (r := (bD.drop 4).hd.thn.tl) (dm3 (n + 2) v hv (ks.map Sh.kx) (newT v.whole ((ks.map Sh.kx).fl cv)) (some (.o 1)) (some (.d P0)) (some (.o 3)) [c0, cDec b, cHd v a, .lst true ((ks.map Sh.kx).fl fv), c4, c5, c6, c7, c8, c9, c10])).trans (dm4 n v hv ks a b _ _ _ _ _ c0 c4 c5 c6 c7 c8 c9 c10)
    have h5 := seq_r (r := (bD.drop 4).tl) ((if_t (b := (bD.drop 4).hd.els) (p := ⟨183, 4, 185, 61⟩) (dm2 (runN tab fns (n + 5)) v hv (some (.o 1)) (some (.d P0)) (some (.o 3)) (some (.d v.whole)) (some (.d (.list ((ks.map Sh.kx).fl pl)))) (some (.d (newT v.whole ((ks.map Sh.kx).fl cv)))) _)).trans h4)
    refine ⟨[c0, cDec b, cHd v a, .lst true ((ks.map Sh.kx).fl fv), c4, c5, c6, c7, c8, c9, c10, .lst false (told ks)], (run_at (f := f_default_makers) rfl _ _ rfl).trans ((congrArg fin ((seq_take 4 bD (dm1 n (ks.map Sh.kx) v a b c0 c4 c5 c6 c7 c8 c9 c10)).trans h5)).trans ?_)⟩
    rcases v with _ | u | ⟨u, w⟩
    · cases hv
    · rfl
    · rfl
noncomputable def pt (i : Int) : Bool → PyData
  | false => pS (t "q")
  | true => pI i
noncomputable def parts : Ks Bool → List PyData
  | .n0 => []
  | .n1 a => [pt 0 a]
  | .n2 a b => [pt 0 a, pt 1 b]
  | .n3 a b c => [pt 0 a, pt 1 b, pt 2 c]
noncomputable def wrapT (w : Bool) (c : PyData) : PyData := match w with
  | true => pE (t "block") [pE (t "call") [pS (t "seen"), c]]
  | false => c
noncomputable def newP (v : Vc) : Bool → PyData
  | true => pE (t "curly") (pS (t "new") :: v.syms)
  | false => pS (t "new")
noncomputable def bodyT (v : Vc) (br w : Bool) (ps : Ks Bool) : PyData := wrapT w (pE (t "call") (newP v br :: parts ps))
noncomputable def calT (v : Vc) : Bool → PyData
  | true => v.whole
  | false => P0
noncomputable def headT (v : Vc) (ah : Bool) : PyData := match v with
  | .v0 => pE (t "call") [calT .v0 ah, pS (t "q")]
  | v => pE (t "where") (pE (t "call") [calT v ah, pS (t "q")] :: v.syms)
noncomputable def kindH (v : Vc) (ah : Bool) : Option PyData := match v, ah with
  | .v0, _ => some P0
  | v, true => some v.whole
  | _, false => none
noncomputable def kindK (v : Vc) (ah br : Bool) : Option PyData := match br with
  | true => some v.whole
  | false => kindH v ah
noncomputable def orN : Option PyData → PyData
  | some x => x
  | none => .none
noncomputable def okBr (v : Vc) (br : Bool) : Bool := !(v.isV0 && br)
theorem r_kind_made (n : Nat) (v : Vc) (a : Ab) (b ah : Bool) (c0 c3 c4 c5 c6 c7 c8 c9 c10 c11 : Cell) : runN tab fns (n + 4) 33 [.d (headT v ah), .o 1] [c0, cDec b, cHd v a, c3, c4, c5, c6, c7, c8, c9, c10, c11] = .ok (.d (orN (kindH v ah))) [c0, cDec b, cHd v a, c3, c4, c5, c6, c7, c8, c9, c10, c11] := by
  revert ah; revert v; exact VB_of (by kernel_rfl)
theorem r_kind_madeQ (n : Nat) (v : Vc) (a : Ab) (b : Bool) (c0 c3 c4 c5 c6 c7 c8 c9 c10 c11 : Cell) : runN tab fns (n + 4) 33 [.d (pE (t "call") [pS (t "Q"), pS (t "a")]), .o 1] [c0, cDec b, cHd v a, c3, c4, c5, c6, c7, c8, c9, c10, c11] = .ex := by
  kernel_rfl
noncomputable def newOut (v : Vc) (ah br w : Bool) (ps : Ks Bool) : Out V := match kindK v ah br with
  | some k => .ok (.d (wrapT w (newT k (parts ps)))) []
  | none => .ex
noncomputable def sy : Bool → List PyData
  | false => [pS (t "T")]
  | true => [pS (t "T"), pS (t "S")]
theorem r_new0 (n : Nat) (w : Bool) (ps : Ks Bool) : runN tab fns (n + 7) 34 [.d (wrapT w (pE (t "call") (pS (t "new") :: parts ps))), .d (s "P"), .d .none] [] = .ex := by
  revert ps; revert w; exact BP_of (by kernel_rfl)
theorem r_new1 (n : Nat) (l : List PyData) (w : Bool) (ps : Ks Bool) : runN tab fns (n + 7) 34 [.d (wrapT w (pE (t "call") (pS (t "new") :: parts ps))), .d (s "P"), .d (.tuple l)] [] = .ok (.d (wrapT w (newT (.tuple l) (parts ps)))) [] := by
  revert ps; revert w; exact BP_of (by kernel_rfl)
theorem r_new2 (n : Nat) (x : PyData) (b w : Bool) (ps : Ks Bool) : runN tab fns (n + 7) 34 [.d (wrapT w (pE (t "call") (pE (t "curly") (pS (t "new") :: sy b) :: parts ps))), .d (s "P"), .d x] [] = .ok (.d (wrapT w (newT (pE (t "curly") (P0 :: sy b)) (parts ps)))) [] := by
  revert ps; revert w; revert b; exact BBP_of (by kernel_rfl)
theorem r_new (n : Nat) (v : Vc) (ah br w : Bool) (ps : Ks Bool) (hb : okBr v br = true) : runN tab fns (n + 7) 34 [.d (bodyT v br w ps), .d (s "P"), .d (orN (kindH v ah))] [] = newOut v ah br w ps := by
  cases br with
  | false =>
    rcases v with _ | u | ⟨u, z⟩
    · cases ah <;> exact r_new1 n _ w ps
    · cases ah
      · exact r_new0 n w ps
      · exact r_new1 n _ w ps
    · cases ah
      · exact r_new0 n w ps
      · exact r_new1 n _ w ps
  | true =>
    rcases v with _ | u | ⟨u, z⟩
    · cases hb
    · exact r_new2 n _ false w ps
    · exact r_new2 n _ true w ps
noncomputable def ownT (v : Vc) (ah w : Bool) (ps : Ks Bool) (k : PyData) : PyData := pE (t "function") [headT v ah, wrapT w (newT k (parts ps))]
noncomputable abbrev ownR (v : Vc) (ah br w : Bool) (ps : Ks Bool) : PyData := pE (t "function") [headT v ah, bodyT v br w ps]
theorem own_t (n : Nat) (v : Vc) (a : Ab) (b ah br w : Bool) (ps : Ks Bool) (hb : okBr v br = true) (X : List PyData) (c0 c3 c5 c6 c7 c8 c9 c10 : Cell) :
    exL tab (runN tab fns (n + 7)) f_own_makers.body.tl.hd.forB [some (.o 1), some (.o 11), some (.d (ownR v ah br w ps)), none] [c0, cDec b, cHd v a, c3, .lst true X, c5, c6, c7, c8, c9, c10, .lst false []]
    = match kindK v ah br with
      | some k => .ok (.next [some (.o 1), some (.o 11), some (.d (ownR v ah br w ps)), some (.d (orN (kindH v ah)))]) [c0, cDec b, cHd v a, c3, .lst true X, c5, c6, c7, c8, c9, c10, .lst false [ownT v ah w ps k]]
      | none => .ex := by
  have h1 : runN tab fns (n + 7) 33 [.d (headT v ah), .o 1] [c0, cDec b, cHd v a, c3, .lst true X, c5, c6, c7, c8, c9, c10, .lst false []] = _ := r_kind_made (n + 3) v a b ah c0 c3 _ c5 c6 c7 c8 c9 c10 _
  have h2 := r_new n v ah br w ps hb
  unfold newOut at h2
  cases hk : kindK v ah br <;> rw [hk] at h2 <;> exact by4 h1 h2 rfl (fun F => exL tab F _ _ _) (fun G B => by kernel_rfl) (fun G B => by kernel_rfl) (by kernel_rfl)
theorem own_s (F : Orc) (b : Bool) (x : PyData) (X : List PyData) (c0 c2 c3 c5 c6 c7 c8 c9 c10 : Cell) (hl : (x :: X).length ≤ 2) : exL tab F f_own_makers.body [some (.o 1), none, none, none] [c0, cDec b, c2, c3, .lst false (x :: X), c5, c6, c7, c8, c9, c10]
    = (goes (fun vs σ => exL tab F f_own_makers.body.tl.hd.forB vs σ) f_own_makers.body.tl.hd.forT (x :: X) [some (.o 1), some (.o 11), none, none] [c0, cDec b, c2, c3, .lst true (x :: X), c5, c6, c7, c8, c9, c10, .lst false []]).bind fun fl σ => match fl with | .next vs => exL tab F f_own_makers.body.tl.tl vs σ | .ret v => .ok (.ret v) σ := by
  rcases X with _ | ⟨y, _ | ⟨z, X⟩⟩
  · kernel_rfl
  · kernel_rfl
  · exact absurd hl (by simp only [List.length_cons]; omega)
theorem r_own (n : Nat) (v : Vc) (a : Ab) (b ah br w : Bool) (ps : Ks Bool) (hb : okBr v br = true) (c0 c3 c5 c6 c7 c8 c9 c10 : Cell) : (∃ τ, runN tab fns (n + 8) 35 [.o 1] [c0, cDec b, cHd v a, c3, .lst false [ownR v ah br w ps], c5, c6, c7, c8, c9, c10] = match kindK v ah br with | some k => .ok (.d (.list [ownT v ah w ps k])) τ | none => .ex) := by
  have ht := own_t n v a b ah br w ps hb [ownR v ah br w ps] c0 c3 c5 c6 c7 c8 c9 c10
  refine ⟨[c0, cDec b, cHd v a, c3, .lst true [ownR v ah br w ps], c5, c6, c7, c8, c9, c10, .lst true [match kindK v ah br with | some k => ownT v ah w ps k | none => .none]], ?_⟩
  rw [run_at (f := f_own_makers) rfl _ _ rfl]
  refine (congrArg fin (own_s _ b _ [] c0 (cHd v a) c3 c5 c6 c7 c8 c9 c10 (Nat.le_of_ble_eq_true rfl))).trans ?_
  cases hk : kindK v ah br <;> rw [hk] at ht
  · exact (congrArg (fun r => fin (Out.bind r _)) (goesx rfl ht)).trans rfl
  · exact (congrArg (fun r => fin (Out.bind r _)) (goes1 (r := []) rfl ht)).trans (by kernel_rfl)
theorem r_ownQ (n : Nat) (v : Vc) (a : Ab) (b : Bool) (c0 c3 c5 c6 c7 c8 c9 c10 : Cell) : runN tab fns (n + 8) 35 [.o 1] [c0, cDec b, cHd v a, c3, .lst false [Qf], c5, c6, c7, c8, c9, c10] = .ex := by
  kernel_rfl
theorem r_ownQ2 (n : Nat) (v : Vc) (a : Ab) (b ah br w : Bool) (ps : Ks Bool) (hb : okBr v br = true) (c0 c3 c5 c6 c7 c8 c9 c10 : Cell) : runN tab fns (n + 8) 35 [.o 1] [c0, cDec b, cHd v a, c3, .lst false [ownR v ah br w ps, Qf], c5, c6, c7, c8, c9, c10] = .ex := by
  have ht := own_t n v a b ah br w ps hb [ownR v ah br w ps, Qf] c0 c3 c5 c6 c7 c8 c9 c10
  have h3 := fun x => r_kind_madeQ (n + 3) v a b c0 c3 (.lst true [ownR v ah br w ps, Qf]) c5 c6 c7 c8 c9 c10 x
  rw [run_at (f := f_own_makers) rfl _ _ rfl]
  refine (congrArg fin (own_s _ b _ [Qf] c0 (cHd v a) c3 c5 c6 c7 c8 c9 c10 (Nat.le_of_ble_eq_true rfl))).trans ?_
  cases hk : kindK v ah br with
  | none =>
    rw [hk] at ht
    exact (congrArg (fun r => fin (Out.bind r _)) (goesx rfl ht)).trans rfl
  | some k =>
    rw [hk] at ht
    exact (congrArg (fun r => fin (Out.bind r _)) ((goes1 rfl ht).trans (goesx rfl (by3 (h3 (.lst false [ownT v ah w ps k])) (fun F => exL tab F _ _ _) (fun G B => by kernel_rfl) (by kernel_rfl))))).trans rfl
noncomputable abbrev bS := f_struct_tree.body
noncomputable abbrev nothT : PyData := .tuple [s "nothing"]
noncomputable def stOut (v : Vc) (a : Ab) (b : Bool) (ks : Ks Sh) (mk : List PyData) : PyData := pE (t "block") ([begD v a b, endD v.tb ks] ++ mk ++ [nothT])
theorem st_1 (n : Nat) (v : Vc) (a : Ab) (b : Bool) (X mks : List PyData) (T : PyData) (hD : runN tab fns (n + 6) 21 [.o 1, .d T] [.ins 0 [(0, .d (.int 0))], .ins 3 []] = .ok (.d .none) [.ins 0 [(0, .d (.int 0))], cDec b, cHd v a, .lst false X, .lst false mks]) :
    exS tab (runN tab fns (n + 6)) bS.hd [some (.d T), some (.o 0), none, none, none, none] [.ins 0 [(0, .d (.int 0))]] = .ok (.next [some (.d T), some (.o 0), some (.o 1), none, none, none]) [.ins 0 [(0, .d (.int 0))], cDec b, cHd v a, .lst false X, .lst false mks] :=
  by3 hD (fun F => exS tab F _ _ _) (fun G B => by kernel_rfl) (by kernel_rfl)
theorem st_2 (n : Nat) (v : Vc) (a : Ab) (b : Bool) (X mks : List PyData) (x : Option V) :
    exS tab (runN tab fns (n + 6)) bS.tl.hd [x, some (.o 0), some (.o 1), none, none, none] [.ins 0 [(0, .d (.int 0))], cDec b, cHd v a, .lst false X, .lst false mks] = .ok (.next [x, some (.o 0), some (.o 1), some (.o 5), none, none]) [cSup v, cDec b, cHd v a, .lst false X, .lst false mks, cVar, .dct v.st, .dct v.tb, .lst false v.bnds] :=
  by3 (r_Variables (n + 1) v (cDec b) (cHd v a) (.lst false X) (.lst false mks)) (fun F => exS tab F _ _ _) (fun G B => by kernel_rfl) (by kernel_rfl)
theorem st_3 (n : Nat) (v : Vc) (a : Ab) (b : Bool) (ks : Ks Sh) (mks : List PyData) (x : Option V) :
    exS tab (runN tab fns (n + 6)) bS.tl.tl.hd [x, some (.o 0), some (.o 1), some (.o 5), none, none] [cSup v, cDec b, cHd v a, .lst false ((ks.map Sh.kx).fl fv), .lst false mks, cVar, .dct v.st, .dct v.tb, .lst false v.bnds]
    = .ok (.next [x, some (.o 0), some (.o 1), some (.o 5), some (.d (.list [begD v a b, endD v.tb ks])), none]) [cSup v, cDec b, cHd v a, .lst true ((ks.map Sh.kx).fl fv), .lst false mks, cVar, .dct v.st, .dct v.tb, .lst true v.bnds, .lst false v.rows, .lst false (endR v.tb ks)] :=
  by4 (r_begun n v a b (cSup v) (cDec b) (.lst false ((ks.map Sh.kx).fl fv)) (.lst false mks) (.dct v.st)) (r_ended n v a ks b v.tb (cSup v) (.lst false mks) (.dct v.st) (.lst true v.bnds) (.lst false v.rows)) rfl (fun F => exS tab F _ _ _) (fun G B => by kernel_rfl) (fun G B => by kernel_rfl) (by kernel_rfl)
theorem st3 (n : Nat) (v : Vc) (a : Ab) (b : Bool) (ks : Ks Sh) (T : PyData) (mks : List PyData) (hD : runN tab fns (n + 6) 21 [.o 1, .d T] [.ins 0 [(0, .d (.int 0))], .ins 3 []] = .ok (.d .none) [.ins 0 [(0, .d (.int 0))], cDec b, cHd v a, .lst false ((ks.map Sh.kx).fl fv), .lst false mks]) :
    exL tab (runN tab fns (n + 6)) (bS.take 3) [some (.d T), some (.o 0), none, none, none, none] [.ins 0 [(0, .d (.int 0))]]
    = .ok (.next [some (.d T), some (.o 0), some (.o 1), some (.o 5), some (.d (.list [begD v a b, endD v.tb ks])), none]) [cSup v, cDec b, cHd v a, .lst true ((ks.map Sh.kx).fl fv), .lst false mks, cVar, .dct v.st, .dct v.tb, .lst true v.bnds, .lst false v.rows, .lst false (endR v.tb ks)] :=
  (seq_next (st_1 n v a b _ mks T hD)).trans ((seq_next (st_2 n v a b _ mks _)).trans ((seq_next (st_3 n v a b ks mks _)).trans rfl))
theorem st_ex (n : Nat) (T : PyData) (hD : runN tab fns n 21 [.o 1, .d T] [.ins 0 [(0, .d (.int 0))], .ins 3 []] = .ex) : runN tab fns (n + 1) 38 [.d T, .o 0] [.ins 0 [(0, .d (.int 0))]] = .ex := by
  rw [run_at (f := f_struct_tree) rfl _ _ rfl]
  exact by3 hD (fun F => fin (exL tab F _ _ _)) (fun G B => by kernel_rfl) (by kernel_rfl)
theorem L2_of {α : Type} {P : List α → Prop} (h0 : P []) (h1 : ∀ a, P [a]) (h2 : ∀ a b, P [a, b]) : ∀ l : List α, l.length ≤ 2 → P l
  | [], _ => h0
  | [a], _ => h1 a
  | [a, b], _ => h2 a b
  | _ :: _ :: _ :: _, h => absurd h (by simp only [List.length_cons]; omega)
theorem st_end (n : Nat) (x y z w : Option V) (e0 e1 : PyData) (mk : List PyData) (hm : mk.length ≤ 2) (σ : Sg) : exL tab (runN tab fns (n + 2)) (bS.drop 4) [x, y, z, w, some (.d (.list [e0, e1])), some (.d (.list mk))] σ = .ok (.ret (.d (pE (t "block") ([e0, e1] ++ mk ++ [nothT])))) σ := by
  revert hm; revert mk
  exact L2_of (by kernel_rfl) (fun _ => by kernel_rfl) (fun _ _ => by kernel_rfl)
theorem ife_t {F : Orc} {c a b : X} {p : Pos} {vs : Vs} {σ σ' : Sg} (h : ev tab F vs c σ = .ok (.d (.bool true)) σ') : ev tab F vs (.ife c a b p) σ = ev tab F vs a σ' := by
  show (ev tab F vs c σ).bind _ = _
  rw [h]; rfl
noncomputable def S.rhs : S → X
  | .asg _ _ _ x _ => x
  | .ret x _ => x
  | _ => .dead default
noncomputable def X.cnd : X → X
  | .ife c _ _ _ => c
  | _ => .dead default
noncomputable def X.thn : X → X
  | .ife _ a _ _ => a
  | _ => .dead default
theorem asg_is {F : Orc} {i : Nat} {pi p : Pos} {x x' : X} {vs : Vs} {σ σ' : Sg} (h : ev tab F vs x σ = ev tab F vs x' σ') : exS tab F (.asg i false pi x p) vs σ = exS tab F (.asg i false pi x' p) vs σ' :=
  congrArg (fun r : Out V => r.bind fun v σ => if i < vs.length then Out.ok (Fl.next (putV vs i v)) σ else .stuck) h
theorem ne_nil {x : PyData} {l : List PyData} (hd : dok (.list (x :: l)) = true) : cmpop .NotEq (.list (x :: l)) (.list []) = some true := by
  unfold cmpop
  rw [hd]; rfl
theorem st_own (n : Nat) (x y w z : Option V) (b : Bool) (m : PyData) (r : List PyData) (hd : dok (.list (m :: r)) = true) (c0 c2 c3 c5 c6 c7 c8 c9 c10 : Cell) :
    exS tab (runN tab fns n) (bS.drop 3).hd [x, y, some (.o 1), w, z, none] [c0, cDec b, c2, c3, .lst false (m :: r), c5, c6, c7, c8, c9, c10]
    = (runN tab fns n 35 [.o 1] [c0, cDec b, c2, c3, .lst false (m :: r), c5, c6, c7, c8, c9, c10]).bind fun v σ => .ok (.next [x, y, some (.o 1), w, z, some v]) σ := by
  have hc : ev tab (runN tab fns n) [x, y, some (.o 1), w, z, none] (bS.drop 3).hd.rhs.cnd [c0, cDec b, c2, c3, .lst false (m :: r), c5, c6, c7, c8, c9, c10] = lift [c0, cDec b, c2, c3, .lst false (m :: r), c5, c6, c7, c8, c9, c10] ((cmpop .NotEq (.list (m :: r)) (.list [])).map .bool) := by kernel_rfl
  rw [ne_nil hd] at hc
  refine (asg_is (ife_t hc)).trans ?_
  cases h : runN tab fns n 35 [.o 1] [c0, cDec b, c2, c3, .lst false (m :: r), c5, c6, c7, c8, c9, c10] <;> exact by3 h (fun F => exS tab F _ _ _) (fun G B => by kernel_rfl) (by kernel_rfl)
theorem st_def (n : Nat) (x y w z : Option V) (b : Bool) (c0 c2 c3 c5 c6 c7 c8 c9 c10 : Cell) :
    exS tab (runN tab fns n) (bS.drop 3).hd [x, y, some (.o 1), w, z, none] [c0, cDec b, c2, c3, .lst false [], c5, c6, c7, c8, c9, c10]
    = (runN tab fns n 30 [.o 1] [c0, cDec b, c2, c3, .lst false [], c5, c6, c7, c8, c9, c10]).bind fun v σ => .ok (.next [x, y, some (.o 1), w, z, some v]) σ := by
  cases h : runN tab fns n 30 [.o 1] [c0, cDec b, c2, c3, .lst false [], c5, c6, c7, c8, c9, c10] <;> exact by3 h (fun F => exS tab F _ _ _) (fun G B => by kernel_rfl) (by kernel_rfl)
noncomputable abbrev sup0 : Sg := [.ins 0 [(0, .d (.int 0))]]
theorem st_go (n : Nat) (v : Vc) (a : Ab) (b : Bool) (ks : Ks Sh) (T : PyData) (mks mk : List PyData) (hm : mk.length ≤ 2) (τ : Sg)
    (hD : runN tab fns (n + 8) 21 [.o 1, .d T] [.ins 0 [(0, .d (.int 0))], .ins 3 []] = .ok (.d .none) [.ins 0 [(0, .d (.int 0))], cDec b, cHd v a, .lst false ((ks.map Sh.kx).fl fv), .lst false mks])
    (h : ∀ x y w z, exS tab (runN tab fns (n + 8)) (bS.drop 3).hd [x, y, some (.o 1), w, z, none] [cSup v, cDec b, cHd v a, .lst true ((ks.map Sh.kx).fl fv), .lst false mks, cVar, .dct v.st, .dct v.tb, .lst true v.bnds, .lst false v.rows, .lst false (endR v.tb ks)] = .ok (.next [x, y, some (.o 1), w, z, some (.d (.list mk))]) τ) :
    runN tab fns (n + 9) 38 [.d T, .o 0] sup0 = .ok (.d (stOut v a b ks mk)) τ := by
  rw [run_at (f := f_struct_tree) rfl _ _ rfl]
  exact (congrArg fin ((seq_take 3 bS (st3 (n + 2) v a b ks T mks hD)).trans ((seq_next (r := bS.drop 4) (h _ _ _ _)).trans (st_end (n + 6) _ _ _ _ _ _ mk hm τ)))).trans rfl
theorem st_goex (n : Nat) (v : Vc) (a : Ab) (b : Bool) (ks : Ks Sh) (T : PyData) (mks : List PyData)
    (hD : runN tab fns (n + 8) 21 [.o 1, .d T] [.ins 0 [(0, .d (.int 0))], .ins 3 []] = .ok (.d .none) [.ins 0 [(0, .d (.int 0))], cDec b, cHd v a, .lst false ((ks.map Sh.kx).fl fv), .lst false mks])
    (h : ∀ x y w z, exS tab (runN tab fns (n + 8)) (bS.drop 3).hd [x, y, some (.o 1), w, z, none] [cSup v, cDec b, cHd v a, .lst true ((ks.map Sh.kx).fl fv), .lst false mks, cVar, .dct v.st, .dct v.tb, .lst true v.bnds, .lst false v.rows, .lst false (endR v.tb ks)] = .ex) :
    runN tab fns (n + 9) 38 [.d T, .o 0] sup0 = .ex := by
  rw [run_at (f := f_struct_tree) rfl _ _ rfl]
  exact (congrArg fin ((seq_take 3 bS (st3 (n + 2) v a b ks T mks hD)).trans (seq_ex (r := bS.drop 4) (h _ _ _ _)))).trans rfl
theorem defM_len (v : Vc) (ks : Ks Sh) : (defM v ks).length ≤ 2 := by
  unfold defM
  split <;> simp only [List.length_cons] <;> split <;> simp
theorem dep_parts (ps : Ks Bool) : PyData.depthAll (parts ps) ≤ 1 := by
  rcases ps with _ | k0 | ⟨k0, k1⟩ | ⟨k0, k1, k2⟩ <;> (try cases k0) <;> (try cases k1) <;> (try cases k2) <;> decide
theorem dep_newP (v : Vc) (br : Bool) : (newP v br).depth ≤ 3 := by
  rcases v with _ | u | ⟨u, w⟩ <;> cases br <;> simp [newP, Vc.syms, PyData.depth, PyData.depthAll]
theorem dep_head (v : Vc) (ah : Bool) : (headT v ah).depth ≤ 7 := by
  rcases v with _ | u | ⟨u, w⟩ <;> cases ah <;> simp [headT, calT, Vc.whole, Vc.syms, PyData.depth, PyData.depthAll]
theorem dep_call (c : PyData) (l : List PyData) (k : Nat) (h1 : c.depth ≤ k) (h2 : PyData.depthAll l ≤ k) (h : Str) : (pE h (c :: l)).depth ≤ k + 2 := by
  simp only [PyData.depth, PyData.depthAll]; omega
theorem dep_nil (k : Nat) : PyData.depthAll [] ≤ k := Nat.zero_le _
theorem dep_body (v : Vc) (br w : Bool) (ps : Ks Bool) : (bodyT v br w ps).depth ≤ 9 := by
  have h := dep_call (newP v br) (parts ps) 3 (dep_newP v br) (Nat.le_trans (dep_parts ps) (by omega)) (t "call")
  cases w with
  | false => exact Nat.le_trans h (by omega)
  | true => exact dep_call _ [] 7 (dep_call _ [_] 5 (by decide +kernel) (by simp only [PyData.depthAll]; omega) _) (dep_nil _) _
theorem dep_own (v : Vc) (ah br w : Bool) (ps : Ks Bool) : (pE (t "function") [headT v ah, bodyT v br w ps]).depth ≤ 12 := by
  have h1 := dep_head v ah
  have h2 := dep_body v br w ps
  simp only [PyData.depth, PyData.depthAll]; omega
theorem dok_of {x : PyData} (h : x.depth ≤ 900) : dok x = true := by unfold dok; exact decide_eq_true h
theorem st_default (n : Nat) (v : Vc) (a : Ab) (b : Bool) (ks : Ks Sh) : ∃ τ, runN tab fns (n + 9) 38 [.d (structT v a (ks.map Sh.kx) none b .non), .o 0] sup0 = .ok (.d (stOut v a b ks (defM v ks))) τ := by
  obtain ⟨τ, h⟩ := r_default (n + 2) ks v a b (cSup v) (.lst false []) cVar (.dct v.st) (.dct v.tb) (.lst true v.bnds) (.lst false v.rows) (.lst false (endR v.tb ks))
  exact ⟨τ, st_go n v a b ks _ [] _ (defM_len v ks) τ (r_Declared (n + 3) v a (ks.map Sh.kx) none b .non _) fun x y w z => (st_def (n + 8) x y w z b _ _ _ _ _ _ _ _ _).trans (by rw [h]; rfl)⟩
noncomputable abbrev mkO (v : Vc) (ah br w : Bool) (ps : Ks Bool) : Mk := some (headT v ah, bodyT v br w ps)
theorem st_mine (n : Nat) (v : Vc) (a : Ab) (b ah br w : Bool) (ps : Ks Bool) (hb : okBr v br = true) (ks : Ks Sh) : match kindK v ah br with
    | some k => ∃ τ, runN tab fns (n + 9) 38 [.d (structT v a (ks.map Sh.kx) (mkO v ah br w ps) b .non), .o 0] sup0 = .ok (.d (stOut v a b ks [ownT v ah w ps k])) τ
    | none => runN tab fns (n + 9) 38 [.d (structT v a (ks.map Sh.kx) (mkO v ah br w ps) b .non), .o 0] sup0 = .ex := by
  obtain ⟨τ, h⟩ := r_own n v a b ah br w ps hb (cSup v) (.lst true ((ks.map Sh.kx).fl fv)) cVar (.dct v.st) (.dct v.tb) (.lst true v.bnds) (.lst false v.rows) (.lst false (endR v.tb ks))
  have hd : dok (.list [pE (t "function") [headT v ah, bodyT v br w ps]]) = true := dok_of (by have := dep_own v ah br w ps; simp only [PyData.depth, PyData.depthAll] at this ⊢; omega)
  cases hk : kindK v ah br with
  | some k =>
    rw [hk] at h
    exact ⟨τ, st_go n v a b ks _ [_] _ (by simp) τ (r_Declared (n + 3) v a (ks.map Sh.kx) (mkO v ah br w ps) b .non _) fun x y q z => (st_own (n + 8) x y q z b _ _ hd _ _ _ _ _ _ _ _ _).trans (by rw [h]; rfl)⟩
  | none =>
    rw [hk] at h
    exact st_goex n v a b ks _ [_] (r_Declared (n + 3) v a (ks.map Sh.kx) (mkO v ah br w ps) b .non _) fun x y q z => (st_own (n + 8) x y q z b _ _ hd _ _ _ _ _ _ _ _ _).trans (by rw [h]; rfl)
theorem st_odd (n : Nat) (v : Vc) (a : Ab) (b : Bool) (ks : Ks Kx) (m : Mk) : runN tab fns (n + 9) 38 [.d (structT v a ks m b .odd), .o 0] sup0 = .ex :=
  st_ex (n + 8) _ (r_Declared (n + 3) v a ks m b .odd _)
theorem st_dup (n : Nat) (v : Vc) (a : Ab) (b : Bool) (ks : Ks Kx) (m : Mk) (h : ks.fl pl ≠ []) : runN tab fns (n + 9) 38 [.d (structT v a ks m b .dup), .o 0] sup0 = .ex := by
  refine st_ex (n + 8) _ ((r_Declared (n + 3) v a ks m b .dup _).trans ?_)
  cases ks with
  | n0 => exact absurd rfl h
  | _ => rfl
theorem st_fn (n : Nat) (v : Vc) (a : Ab) (b : Bool) (ks : Ks Sh) : runN tab fns (n + 9) 38 [.d (structT v a (ks.map Sh.kx) none b .fn), .o 0] sup0 = .ex :=
  st_goex n v a b ks _ [Qf] (r_Declared (n + 3) v a (ks.map Sh.kx) none b .fn _) fun x y q z => (st_own (n + 8) x y q z b _ _ (by decide +kernel) _ _ _ _ _ _ _ _ _).trans (by rw [r_ownQ n]; rfl)
theorem st_fn2 (n : Nat) (v : Vc) (a : Ab) (b ah br w : Bool) (ps : Ks Bool) (hb : okBr v br = true) (ks : Ks Sh) : runN tab fns (n + 9) 38 [.d (structT v a (ks.map Sh.kx) (mkO v ah br w ps) b .fn), .o 0] sup0 = .ex := by
  have hd : dok (.list [pE (t "function") [headT v ah, bodyT v br w ps], Qf]) = true := by
    refine dok_of ?_
    have := dep_own v ah br w ps
    have h2 : Qf.depth ≤ 20 := by decide +kernel
    simp only [PyData.depth, PyData.depthAll] at this ⊢
    omega
  exact st_goex n v a b ks _ [_, Qf] (r_Declared (n + 3) v a (ks.map Sh.kx) (mkO v ah br w ps) b .fn _) fun x y q z => (st_own (n + 8) x y q z b _ _ hd _ _ _ _ _ _ _ _ _).trans (by rw [r_ownQ2 n v a b ah br w ps hb]; rfl)
theorem told_ok (n : Nat) (T x : PyData) (τ : Sg) (h : runN tab fns (n + 1) 38 [.d T, .o 0] sup0 = .ok (.d x) τ) : runN tab fns (n + 2) 50 [.d T] [] = .ok (.d x) τ := by
  have h6 : runN tab fns (n + 1) 6 [.o 0] [.ins 0 []] = .ok (.d .none) sup0 := by kernel_rfl
  rw [run_at (f := f_law_told) rfl _ _ rfl]
  exact by4 h6 h rfl (fun F => fin (exL tab F _ _ _)) (fun G B => by kernel_rfl) (fun G B => by kernel_rfl) (by kernel_rfl)
theorem told_ex (n : Nat) (T : PyData) (h : runN tab fns (n + 1) 38 [.d T, .o 0] sup0 = .ex) : runN tab fns (n + 2) 50 [.d T] [] = .ok (.d .none) [] := by
  have h6 : runN tab fns (n + 1) 6 [.o 0] [.ins 0 []] = .ok (.d .none) sup0 := by kernel_rfl
  rw [run_at (f := f_law_told) rfl _ _ rfl]
  exact by4 h6 h rfl (fun F => fin (exL tab F _ _ _)) (fun G B => by kernel_rfl) (fun G B => by kernel_rfl) (by kernel_rfl)
theorem lift_is {r : Out V} {o : Option PyData} {x : PyData} {σ : Sg} (h : r = lift σ o) (e : o = some x) : r = .ok (.d x) σ := by
  rw [h, e]; rfl
section
variable {F : Orc} {vs : Vs} {σ σ' : Sg} {p : Pos}
theorem bin_is {op : Operator} {a b : X} {x y z : PyData} (ha : ev tab F vs a σ = .ok (.d x) σ) (hb : ev tab F vs b σ = .ok (.d y) σ) (h : binop op x y = some z) : ev tab F vs (.bin op a b p) σ = .ok (.d z) σ := by
  show (ev tab F vs a σ).bind _ = _
  rw [ha]
  show (ev tab F vs b σ).bind _ = _
  rw [hb]
  exact lift_is rfl h
theorem asg_v {x : X} {v : V} {i : Nat} {q : Pos} (h : ev tab F vs x σ = .ok v σ') (hi : i < vs.length) : exS tab F (.asg i false q x p) vs σ = .ok (.next (putV vs i v)) σ' := by
  show (ev tab F vs x σ).bind _ = _
  rw [h]
  exact if_pos hi
theorem sit_is {e i x x' : X} {q : Pos} (h : ev tab F vs x σ = ev tab F vs x' σ) : exS tab F (.sit e i q x p) vs σ = exS tab F (.sit e i q x' p) vs σ := by
  show (ev tab F vs x σ).bind _ = (ev tab F vs x' σ).bind _
  rw [h]
theorem ret_d {x : X} {y : PyData} (h : ev tab F vs x σ = .ok (.d y) σ') : exS tab F (.ret x p) vs σ = .ok (.ret (.d y)) σ' := by
  show (ev tab F vs x σ).bind _ = _
  rw [h]; rfl
theorem ife_f {c a b : X} (h : ev tab F vs c σ = .ok (.d (.bool false)) σ') : ev tab F vs (.ife c a b p) σ = ev tab F vs b σ' := by
  show (ev tab F vs c σ).bind _ = _
  rw [h]; rfl
theorem d_cons {x : X} {y : PyData} {xs : XL} {ys : List PyData} {σ'' : Sg} (h : ev tab F vs x σ = .ok (.d y) σ') (h' : evD tab F vs xs σ' = .ok ys σ'') : evD tab F vs (.cons x xs) σ = .ok (y :: ys) σ'' := by
  show (ev tab F vs x σ).bind _ = _
  rw [h]
  show (evD tab F vs xs σ').bind _ = _
  rw [h']; rfl
theorem tup_is {xs : XL} {ys : List PyData} {k : Nat} (h : evD tab F vs xs σ = .ok ys σ') : ev tab F vs (.tup xs k p) σ = .ok (.d (.tuple ys)) σ' := by
  show (evD tab F vs xs σ).bind _ = _
  rw [h]; rfl
theorem sub_is {a b : X} {l : List PyData} {m : Int} {z : PyData} (ha : ev tab F vs a σ = .ok (.d (.list l)) σ) (hb : ev tab F vs b σ = .ok (.d (.int m)) σ') (h : ((place l.length m).bind fun j => l[j]?) = some z) : ev tab F vs (.sub a b p) σ = .ok (.d z) σ' := by
  show (ev tab F vs a σ).bind _ = _
  rw [ha]
  show (ev tab F vs b σ).bind _ = _
  rw [hb]
  exact lift_is rfl h
theorem comp_is {elt x y : X} {tg : Tg} {sk : SK} {ifs : XL} {tb : List (Str × Nat)} {sc : Scope} {ds ys : List PyData} {σ'' : Sg} (hs : srcOf (elt.isVar && ifs.isNil) sk (fun σ => ev tab F vs x σ) (fun σ => ev tab F vs y σ) σ = .ok ds σ') (ht : turns (tF F (.comp elt tg sk x y ifs tb sc p)) tg vs ds σ' = .ok ys σ'') : ev tab F vs (.comp elt tg sk x y ifs tb sc p) σ = .ok (.d (.list ys)) σ'' := by
  show (srcOf (elt.isVar && ifs.isNil) sk (fun σ => ev tab F vs x σ) (fun σ => ev tab F vs y σ) σ).bind _ = _
  rw [hs]
  show (turns (tF F (.comp elt tg sk x y ifs tb sc p)) tg vs ds σ').bind _ = _
  rw [ht]; rfl
theorem tF_is {elt x y : X} {tg : Tg} {sk : SK} {tb : List (Str × Nat)} {sc : Scope} {d : PyData} (h : ev tab F vs elt σ = .ok (.d d) σ') : tF F (.comp elt tg sk x y .nil tb sc p) vs σ = .ok (some d) σ' := by
  show (ev tab F vs elt σ).bind _ = _
  rw [h]; rfl
theorem call_is {g f : Nat} {inl : Bool} {pn : Pos} {xs : XL} {as : List V} (ha : evA tab F vs xs σ = .ok as σ') (hk : tab.gk g = .fn f inl) : ev tab F vs (.call g pn xs p) σ = callF F f inl as σ' := by
  show (evA tab F vs xs σ).bind _ = _
  rw [ha]
  show (match tab.gk g with | .fn f inl => callF F f inl as σ' | .cls c f => callC F c f as σ' | _ => .stuck) = _
  rw [hk]
theorem call_o {g f k : Nat} {pn : Pos} {xs : XL} {as : List V} {r : Out V} (e : F f (.o k :: as) σ' = r) (ha : evA tab F vs xs σ = .ok (.o k :: as) σ') (hk : tab.gk g = .fn f false) : ev tab F vs (.call g pn xs p) σ = r := (call_is ha hk).trans e
theorem call_d {g f : Nat} {pn : Pos} {xs : XL} {as : List V} {x : PyData} {τ : Sg} (e : F f as [] = .ok (.d x) τ) (ha : evA tab F vs xs σ = .ok as σ') (hd : as.any isObj = false) (hk : tab.gk g = .fn f false) : ev tab F vs (.call g pn xs p) σ = .ok (.d x) σ' := by
  rw [call_is ha hk, callF, hd, e]; rfl
theorem src_rngD {k : Bool} {g : Nat} {p1 : Pos} {f f' : Sg → Out V} {m : Int} (h : f σ = .ok (.d (.int m)) σ') (hm : (decide (0 ≤ m) && decide (m ≤ 1000)) = true) : srcOf k (.rng g p1 p) f f' σ = .ok (rangeD m.toNat) σ' := by
  show (f σ).bind _ = _
  rw [h]
  exact if_pos hm
end
theorem z_or {Q : Prop} {m a : Int} {l : List Int} (h : m ∈ a :: l) (p : m = a → Q) (q : m ∈ l → Q) : Q := (List.mem_cons.mp h).elim p q
theorem z_in {m : Int} {N : Nat} (h0 : 0 ≤ m) (h1 : m < N) : m ∈ (List.range N).map fun k : Nat => (k : Int) := by
  obtain ⟨k, rfl⟩ := Int.eq_ofNat_of_zero_le h0
  exact List.mem_map.mpr ⟨k, List.mem_range.mpr (Int.ofNat_lt.mp h1), rfl⟩
theorem z_no {Q : Prop} {m : Int} (h : m ∈ ([] : List Int)) : Q := absurd h List.not_mem_nil
theorem z2 {Q : Prop} {m : Int} (h0 : 0 ≤ m) (h1 : m < 2) (p0 : m = 0 → Q) (p1 : m = 1 → Q) : Q :=
  z_or (a := 0) (l := [1]) (z_in h0 h1) p0 fun h => z_or h p1 z_no
theorem z3 {Q : Prop} {m : Int} (h0 : 0 ≤ m) (h1 : m < 3) (p0 : m = 0 → Q) (p1 : m = 1 → Q) (p2 : m = 2 → Q) : Q :=
  z_or (a := 0) (l := [1, 2]) (z_in h0 h1) p0 fun h => z_or h p1 fun h => z_or h p2 z_no
theorem z4 {Q : Prop} {m : Int} (h0 : 0 ≤ m) (h1 : m < 4) (p0 : m = 0 → Q) (p1 : m = 1 → Q) (p2 : m = 2 → Q) (p3 : m = 3 → Q) : Q :=
  z_or (a := 0) (l := [1, 2, 3]) (z_in h0 h1) p0 fun h => z_or h p1 fun h => z_or h p2 fun h => z_or h p3 z_no
theorem beqI (a b : Int) : (a == b) = decide (a = b) := by
  by_cases h : a = b <;> simp [h]
noncomputable abbrev bg (b q : Int) : Cell := .dct [(t "bag", .int b), (t "store", .int q)]
noncomputable def Bg (b q : Int) : Prop := 0 ≤ b ∧ 0 ≤ q ∧ q < 2147483647
section
variable {F : Orc} {b q N : Int} {τ : Sg}
noncomputable abbrev aM (N : Int) (x : Option V) : Vs := [some (.o 0), some (.d (.int N)), x]
theorem mb_c {z : Bool} (hb : decide (0 < b) = z) : ev tab F (aM N none) f_law_marble.body.hd.cnd (bg b q :: τ) = .ok (.d (.bool z)) (bg b q :: τ) := by
  subst hb; kernel_rfl
theorem mb_t (hb : 0 < b) (h0 : 0 < N) (h1 : N < 1000000000) : exL tab F f_law_marble.body (aM N none) (bg b q :: τ) = .ok (.ret (.d (.int (Int.fmod b N)))) (bg (Int.fdiv b N) q :: τ) := by
  have e2 : exS tab F f_law_marble.body.hd.thn.tl.hd (aM N (some (.d (.int (Int.fmod b N))))) (bg b q :: τ) = .ok (.next (aM N (some (.d (.int (Int.fmod b N)))))) (bg (Int.fdiv b N) q :: τ) :=
    (sit_is (x' := .cst (.int (Int.fdiv b N)) 0 default) (lift_is (by kernel_rfl) (if_pos (by rw [decide_eq_true h0, decide_eq_true h1]; rfl) : binop .FloorDiv (.int b) (.int N) = _))).trans (by kernel_rfl)
  exact seq_r ((if_t (mb_c (decide_eq_true hb))).trans ((seq_next (asg_v (lift_is (by kernel_rfl) (if_pos (decide_eq_true h0) : binop .Mod (.int b) (.int N) = _)) (Nat.le_of_ble_eq_true rfl))).trans ((seq_next e2).trans rfl)))
theorem mb_f (hb : ¬ 0 < b) (hq : q.natAbs < 2 ^ 64) (h0 : 0 < N) : exL tab F f_law_marble.body (aM N none) (bg b q :: τ) = .ok (.ret (.d (.int (Int.fmod (Int.fdiv (Int.fmod (q * 48271 + 5) 2147483647) 43) N)))) (bg b (Int.fmod (q * 48271 + 5) 2147483647) :: τ) := by
  have hm : binop .Mult (.int q) (.int 48271) = some (.int (q * 48271)) := if_pos (decide_eq_true hq)
  have hn : binop .Mod (.int (Int.fdiv (Int.fmod (q * 48271 + 5) 2147483647) 43)) (.int N) = some _ := if_pos (decide_eq_true h0)
  have e1 : exS tab F f_law_marble.body.tl.hd (aM N none) (bg b q :: τ) = .ok (.next (aM N none)) (bg b (Int.fmod (q * 48271 + 5) 2147483647) :: τ) :=
    (sit_is (x' := .cst (.int (Int.fmod (q * 48271 + 5) 2147483647)) 0 default) (bin_is (bin_is (bin_is (x := .int q) (by kernel_rfl) rfl hm) rfl rfl) rfl rfl)).trans (by kernel_rfl)
  exact (seq_next ((if_f (mb_c (decide_eq_false hb))).trans rfl)).trans ((seq_next e1).trans (seq_r (ret_d (bin_is (bin_is (x := .int (Int.fmod (q * 48271 + 5) 2147483647)) (by kernel_rfl) rfl rfl) rfl hn))))
end
theorem r_marble (n : Nat) (b q : Int) (N : Int) (h : Bg b q) (h0 : 0 < N) (h1 : N < 1000000000) (τ : Sg) {P : Prop} (k : ∀ m b' q', 0 ≤ m → m < N → Bg b' q' → runN tab fns (n + 1) 40 [.o 0, .d (.int N)] (bg b q :: τ) = .ok (.d (.int m)) (bg b' q' :: τ) → P) : P := by
  by_cases hb : 0 < b
  · exact k _ _ q (Int.fmod_nonneg_of_pos _ h0) (Int.fmod_lt_of_pos _ h0) ⟨Int.fdiv_nonneg h.1 (Int.le_of_lt h0), h.2⟩ ((run_at (f := f_law_marble) rfl _ _ rfl).trans (congrArg fin (mb_t hb h0 h1)))
  · exact k _ b _ (Int.fmod_nonneg_of_pos _ h0) (Int.fmod_lt_of_pos _ h0) ⟨h.1, Int.fmod_nonneg_of_pos _ (by decide), Int.fmod_lt_of_pos _ (by decide)⟩ ((run_at (f := f_law_marble) rfl _ _ rfl).trans (congrArg fin (mb_f hb (Nat.lt_trans (Int.ofNat_lt.mp (by rw [Int.natAbs_of_nonneg h.2.1]; exact h.2.2) : q.natAbs < 2147483647) (by decide)) h0)))
theorem r_lsym (n : Nat) (h : Str) : runN tab fns (n + 1) 41 [.d (.str h)] [] = .ok (.d (pS h)) [] := by kernel_rfl
theorem b_is {r : Out V} {z z' : Bool} {σ : Sg} (h : r = .ok (.d (.bool z)) σ) (e : z = z') : r = .ok (.d (.bool z')) σ := e ▸ h
theorem dep_ints (r : List Int) : PyData.depthAll (r.map .int) = 0 := by
  induction r with
  | nil => rfl
  | cons x r ih => simp only [List.map_cons, PyData.depthAll, PyData.depth, ih]; rfl
noncomputable abbrev bB := f_law_bag.body
noncomputable abbrev aB (L : PyData) (f w : Option V) : Vs := [some (.d L), f, w]
noncomputable def c01 (b : Bool) : Int := if b then 1 else 0
section
variable {F : Orc} {L : PyData} {x w : Int}
theorem dsp_is {vs : Vs} {σ : Sg} {p p' : Pos} {ks xs xs' : XL} (h : evD tab F vs xs σ = evD tab F vs xs' σ) : exS tab F (.ret (.dsp ks xs p) p') vs σ = exS tab F (.ret (.dsp ks xs' p) p') vs σ := by
  show ((evD tab F vs xs σ).bind _).bind _ = ((evD tab F vs xs' σ).bind _).bind _
  rw [h]
noncomputable abbrev bagQ (x w : Int) : Int := Int.fmod (w + 3 * c01 (decide (x < 0))) 2097143 + 29
theorem bag_r {B : Int} {z : Bool} (hz : decide (10000000000000 ≤ w) = z) (hB : (bif z then w else 0) = B) : exL tab F bB.tl.tl (aB L (some (.d (.int x))) (some (.d (.int w)))) [] = .ok (.ret (.o 0)) [bg B (bagQ x w)] := by
  subst hB
  refine seq_r ((dsp_is (xs' := .cons (.cst (.int (bif z then w else 0)) 0 default) (.cons (.cst (.int (bagQ x w)) 0 default) .nil)) (d_cons (σ' := []) ?_ (d_cons (σ' := []) (by kernel_rfl) rfl))).trans (by kernel_rfl))
  cases z with
  | true => exact (ife_t (b_is (z := decide (10000000000000 ≤ w)) (σ := []) (by kernel_rfl) hz)).trans rfl
  | false => exact (ife_f (b_is (z := decide (10000000000000 ≤ w)) (σ := []) (by kernel_rfl) hz)).trans rfl
theorem bag_s (hw : 0 ≤ w) {P : Prop} (k : ∀ b q, Bg b q → exL tab F bB.tl.tl (aB L (some (.d (.int x))) (some (.d (.int w)))) [] = .ok (.ret (.o 0)) [bg b q] → P) : P := by
  have h3 : ∀ j : Int, 0 ≤ j → j < 2097143 → 0 ≤ j + 29 ∧ j + 29 < 2147483647 := fun j h0 h1 => ⟨Int.add_nonneg h0 (by decide), Int.lt_trans (Int.add_lt_add_right h1 29) (by decide)⟩
  have h4 := h3 _ (Int.fmod_nonneg_of_pos (w + 3 * c01 (decide (x < 0))) (b := 2097143) (by decide)) (Int.fmod_lt_of_pos _ (by decide))
  by_cases h : 10000000000000 ≤ w
  · exact k w _ ⟨hw, h4⟩ (bag_r (decide_eq_true h) rfl)
  · exact k 0 _ ⟨Int.le_refl 0, h4⟩ (bag_r (decide_eq_false h) rfl)
theorem bag_d {z : Bool} (h : decide (0 ≤ x) = z) : ev tab F (aB L (some (.d (.int x))) none) bB.tl.hd.rhs.cnd [] = .ok (.d (.bool z)) [] := by
  subst h; kernel_rfl
theorem bag_w {P : Prop} (k : ∀ b q, Bg b q → exL tab F bB.tl (aB L (some (.d (.int x))) none) [] = .ok (.ret (.o 0)) [bg b q] → P) : P := by
  by_cases h : 0 ≤ x
  · exact bag_s (F := F) (L := L) (x := x) h fun b q G e => k b q G ((seq_next (asg_v ((ife_t (bag_d (decide_eq_true h))).trans rfl) (Nat.le_of_ble_eq_true rfl))).trans e)
  · exact bag_s (F := F) (L := L) (x := x) (w := -x) (Int.neg_nonneg_of_nonpos (Int.le_of_lt (Int.not_le.mp h))) fun b q G e => k b q G ((seq_next (asg_v ((ife_f (bag_d (decide_eq_false h))).trans rfl) (Nat.le_of_ble_eq_true rfl))).trans e)
end
theorem bag_f {F : Orc} {x : Int} {l : List PyData} (hd : dok (.list (.int x :: l)) = true) (hl : l.length + 1 ≤ 100000) : exS tab F bB.hd (aB (.list (.int x :: l)) none none) [] = .ok (.next (aB (.list (.int x :: l)) (some (.d (.int x))) none)) [] := by
  have hp : place (l.length + 1) 0 = some 0 := by
    unfold place
    rw [decide_eq_true hl]
    have h : (decide ((0 : Int) ≤ 0) && decide ((0 : Int) < (l.length + 1 : Nat))) = true := decide_eq_true (Int.ofNat_lt.mpr (Nat.succ_pos l.length))
    exact if_pos h
  exact asg_v ((ife_t (σ' := []) (lift_is (x := .bool true) (o := (cmpop .NotEq (.list (.int x :: l)) (.list [])).map .bool) (by kernel_rfl) (by rw [ne_nil hd]; rfl))).trans (lift_is (o := (place (l.length + 1) 0).bind fun j => (PyData.int x :: l)[j]?) (by kernel_rfl) (by rw [hp]; rfl))) (Nat.le_of_ble_eq_true rfl)
theorem r_bag (n : Nat) (script : List Int) (hl : script.length ≤ 63) {P : Prop} (k : ∀ b q, Bg b q → runN tab fns (n + 1) 39 [.d (.list (script.map .int))] [] = .ok (.o 0) [bg b q] → P) : P := by
  cases script with
  | nil => exact k 0 29 ⟨by decide, by decide, by decide⟩ (by kernel_rfl)
  | cons x r =>
    exact bag_w (F := runN tab fns n) (L := .list (.int x :: r.map .int)) (x := x) fun b q G e => k b q G ((run_at (f := f_law_bag) rfl _ _ rfl).trans (congrArg fin ((seq_next (bag_f (dok_of (by simp only [PyData.depth, PyData.depthAll, dep_ints]; decide)) (by rw [List.length_map]; exact Nat.le_trans hl (by decide)))).trans e)))
inductive Rk where | non | i64 | tT | tS | vT
noncomputable def Rk.sh : Rk → Sh
  | .non => .non
  | .i64 => .sym (t "Int64")
  | .tT => .sym (t "T")
  | .tS => .sym (t "S")
  | .vT => .cur (t "Vector") (t "T")
noncomputable def rx (k : Rk) : Kx := k.sh.kx
noncomputable def somes : Vc → List PyData
  | .v0 => [.none, pS (t "Int64")]
  | .v1 _ => [.none, pS (t "Int64"), pS (t "T"), pE (t "curly") [pS (t "Vector"), pS (t "T")]]
  | .v2 _ _ => [.none, pS (t "Int64"), pS (t "T"), pS (t "S"), pE (t "curly") [pS (t "Vector"), pS (t "T")]]
noncomputable def rkL : Vc → List Rk
  | .v0 => [.non, .i64]
  | .v1 _ => [.non, .i64, .tT, .vT]
  | .v2 _ _ => [.non, .i64, .tT, .tS, .vT]
noncomputable def kdAt (v : Vc) (m : Int) : Rk := (rkL v).getD m.toNat .non
theorem somes_at (v : Vc) (m : Int) (h0 : 0 ≤ m) (h1 : m < (somes v).length) : ((place (somes v).length m).bind fun j => (somes v)[j]?) = some (kd (rx (kdAt v m))) :=
  Z_of (f := fun m => (place (somes v).length m).bind fun j => (somes v)[j]?) (g := fun m => some (kd (rx (kdAt v m)))) (by cases v <;> kernel_rfl) m h0 h1
noncomputable abbrev bL := f_law_fields.body
theorem lf1 (n : Nat) (v : Vc) (σ : Sg) (x : Option V) : exL tab (runN tab fns (n + 1)) (bL.take 2) [x, some (.d (.list v.names)), none, none, none, none] σ = .ok (.next [x, some (.d (.list v.names)), some (.d (.list (somes v))), none, none, none]) σ := by
  rcases v with _ | u | ⟨u, w⟩ <;> kernel_rfl
theorem lf_turn {F : Orc} {i m : Int} {nm z : String} {l : List PyData} {k : Rk} {σ σ' : Sg} {x0 x1 x3 x4 : Option V} {c x y : X} {tg : Tg} {sk : SK} {tb : List (Str × Nat)} {sc : Scope} {g k1 k2 : Nat} {p p1 p2 p3 p4 p5 p6 p7 p8 : Pos}
    (h1 : bcallop .str (.int i) = some (s z)) (h2 : binop .Add (s "f") (s z) = some (s nm))
    (hc : ev tab F [x0, x1, some (.d (.list l)), x3, x4, some (.d (.int i))] c σ = .ok (.d (.int m)) σ') (sl : ((place l.length m).bind fun j => l[j]?) = some (kd (rx k))) :
    tF F (.comp (.tup (.cons (.bin .Add (.cst (.str "f") k1 p1) (.bcall .str g p2 (.var 5 p3) p4) p5) (.cons (.sub (.var 2 p6) c p7) .nil)) k2 p8) tg sk x y .nil tb sc p) [x0, x1, some (.d (.list l)), x3, x4, some (.d (.int i))] σ = .ok (some (fv nm (rx k))) σ' :=
  tF_is (tup_is (d_cons (bin_is rfl (lift_is rfl h1) h2) (d_cons (sub_is rfl hc sl) rfl)))
theorem lf_args (v : Vc) {F : Orc} {x1 x3 x4 x5 : Option V} {σ : Sg} {g : Nat} {p p1 p2 p3 : Pos} {k : List (Str × PyData)} : evA tab F [some (.o 0), x1, some (.d (.list (somes v))), x3, x4, x5] (.cons (.var 0 p) (.cons (.bcall .len g p1 (.var 2 p2) p3) .nil)) (.dct k :: σ) = .ok [.o 0, .d (.int (somes v).length)] (.dct k :: σ) := by
  cases v <;> kernel_rfl
noncomputable abbrev bf (v : Vc) (i : Option V) : Vs := [some (.o 0), some (.d (.list v.names)), some (.d (.list (somes v))), none, none, i]
theorem lf_do {n : Nat} {v : Vc} {b q b' q' m : Int} (c : Int) {σ' : Sg} {τ : Sg} {l : List PyData} (e : runN tab fns (n + 1) 40 [.o 0, .d (.int 4)] (bg b q :: τ) = .ok (.d (.int m)) (bg b' q' :: τ)) (hc : m = c) (hm : (decide (0 ≤ c) && decide (c ≤ 1000)) = true) (h : turns (tF (runN tab fns (n + 1)) (bL.drop 2).hd.rhs) (tT (bL.drop 2).hd.rhs) (bf v none) (rangeD c.toNat) (bg b' q' :: τ) = .ok l σ') : runN tab fns (n + 2) 42 [.o 0, .d (.list v.names)] (bg b q :: τ) = .ok (.d (.list l)) σ' := by
  subst hc
  exact (run_at (f := f_law_fields) rfl _ _ rfl).trans ((congrArg fin ((seq_take 2 bL (lf1 n v _ _)).trans (seq_r (ret_d (comp_is (src_rngD (call_o e rfl rfl) hm) h))))).trans rfl)
theorem lf_at {n : Nat} {v : Vc} {i m b q b' q' : Int} {nm z : String} {τ : Sg} (h1 : bcallop .str (.int i) = some (s z)) (h2 : binop .Add (s "f") (s z) = some (s nm)) (e : runN tab fns (n + 1) 40 [.o 0, .d (.int (somes v).length)] (bg b q :: τ) = .ok (.d (.int m)) (bg b' q' :: τ)) (h : 0 ≤ m) (h' : m < (somes v).length) :
    tF (runN tab fns (n + 1)) (bL.drop 2).hd.rhs (bf v (some (.d (.int i)))) (bg b q :: τ) = .ok (some (fv nm (rx (kdAt v m)))) (bg b' q' :: τ) :=
  lf_turn h1 h2 (call_o e (lf_args v) rfl) (somes_at v m h h')
theorem s_0 : bcallop .str (.int 0) = some (s "0") ∧ binop .Add (s "f") (s "0") = some (s "f0") := ⟨by kernel_rfl, by kernel_rfl⟩
theorem s_1 : bcallop .str (.int 1) = some (s "1") ∧ binop .Add (s "f") (s "1") = some (s "f1") := ⟨by kernel_rfl, by kernel_rfl⟩
theorem s_2 : bcallop .str (.int 2) = some (s "2") ∧ binop .Add (s "f") (s "2") = some (s "f2") := ⟨by kernel_rfl, by kernel_rfl⟩
theorem r_fields (n : Nat) (v : Vc) (b q : Int) (h : Bg b q) (τ : Sg) {P : Prop} (k : ∀ (ks : Ks Rk) (b' q' : Int), Bg b' q' → runN tab fns (n + 2) 42 [.o 0, .d (.list v.names)] (bg b q :: τ) = .ok (.d (.list ((ks.map rx).fl fv))) (bg b' q' :: τ) → P) : P := by
  have hp : 0 < ((somes v).length : Int) ∧ ((somes v).length : Int) < 1000000000 := by cases v <;> exact ⟨of_decide_eq_true (by kernel_rfl), of_decide_eq_true (by kernel_rfl)⟩
  have D := fun b q G (k : ∀ m b' q', 0 ≤ m → m < _ → _) => r_marble n b q _ G hp.1 hp.2 τ (P := P) k
  exact r_marble n b q 4 h (by decide) (by decide) τ fun m b0 q0 g0 g1 G e => D b0 q0 G fun m1 b1 q1 i1 j1 G1 e1 => D b1 q1 G1 fun m2 b2 q2 i2 j2 G2 e2 => D b2 q2 G2 fun m3 b3 q3 i3 j3 G3 e3 =>
    z4 g0 g1 (fun hm => k .n0 b0 q0 G (lf_do 0 e hm rfl rfl))
      (fun hm => k (.n1 _) b1 q1 G1 (lf_do 1 e hm rfl (turns1 rfl (lf_at s_0.1 s_0.2 e1 i1 j1) rfl)))
      (fun hm => k (.n2 _ _) b2 q2 G2 (lf_do 2 e hm rfl (turns1 rfl (lf_at s_0.1 s_0.2 e1 i1 j1) (turns1 rfl (lf_at s_1.1 s_1.2 e2 i2 j2) rfl))))
      (fun hm => k (.n3 _ _ _) b3 q3 G3 (lf_do 3 e hm rfl (turns1 rfl (lf_at s_0.1 s_0.2 e1 i1 j1) (turns1 rfl (lf_at s_1.1 s_1.2 e2 i2 j2) (turns1 rfl (lf_at s_2.1 s_2.2 e3 i3 j3) rfl)))))
noncomputable abbrev bM := f_law_maker.body
noncomputable def brc (v : Vc) : PyData := pE (t "curly") (P0 :: v.syms)
noncomputable def vM (v : Vc) (fs : PyData) (b c d e f g h i j : Option V) : Vs := [some (.o 0), some (.d (.list v.names)), some (.d fs), b, c, d, e, f, g, h, i, j, none, none, none, none, none, none]
noncomputable def vb (b : Bool) : Option V := some (.d (.bool b))
noncomputable def w1 (v : Vc) (fs : PyData) : Vs := vM v fs (some (.d P0)) (some (.d (brc v))) none none none none none none none
noncomputable def w2 (v : Vc) (fs : PyData) (ah : Bool) : Vs := vM v fs (some (.d P0)) (some (.d (brc v))) (vb ah) none none none none none none
noncomputable def w3 (v : Vc) (fs : PyData) (ah br : Bool) : Vs := vM v fs (some (.d P0)) (some (.d (brc v))) (vb ah) (vb br) none none none none none
noncomputable def w4 (v : Vc) (fs : PyData) (ah br : Bool) : Vs := vM v fs (some (.d P0)) (some (.d (brc v))) (vb ah) (vb br) (some (.d (calT v ah))) (some (.d (newP v br))) none none none
noncomputable def w5 (v : Vc) (fs : PyData) (ah br : Bool) (ps : List PyData) : Vs := vM v fs (some (.d P0)) (some (.d (brc v))) (vb ah) (vb br) (some (.d (calT v ah))) (some (.d (newP v br))) (some (.d (.list ps))) none none
noncomputable def w6 (v : Vc) (fs : PyData) (ah br : Bool) (ps : List PyData) (w : Bool) : Vs := vM v fs (some (.d P0)) (some (.d (brc v))) (vb ah) (vb br) (some (.d (calT v ah))) (some (.d (newP v br))) (some (.d (.list ps))) (some (.d (pE (t "call") (newP v br :: ps)))) (vb w)
section
variable {n : Nat} {v : Vc} {fs : PyData} {σ τ : Sg} {b q : Int} {P : Prop}
theorem lm1 (v : Vc) : exL tab (runN tab fns (n + 1)) (bM.take 1) (vM v fs none none none none none none none none none) σ = .ok (.next (w1 v fs)) σ := by
  revert v; exact V_of (by kernel_rfl)
theorem lm2 (h : Bg b q) (k : ∀ z b' q', okBr v z = true → Bg b' q' → exL tab (runN tab fns (n + 1)) ((bM.drop 1).take 1) (w1 v fs) (bg b q :: τ) = .ok (.next (w2 v fs z)) (bg b' q' :: τ) → P) : P :=
  r_marble n b q 2 h (by decide) (by decide) τ fun m b0 q0 _ _ G e => match v with
    | .v0 => k false b q rfl h (by kernel_rfl)
    | .v1 _ => k (m == 0) b0 q0 rfl G (by3 e (fun F => exL tab F _ _ _) (fun G B => by kernel_rfl) (by kernel_rfl))
    | .v2 _ _ => k (m == 0) b0 q0 rfl G (by3 e (fun F => exL tab F _ _ _) (fun G B => by kernel_rfl) (by kernel_rfl))
theorem lm3 {ah : Bool} (h : Bg b q) (k : ∀ z b' q', okBr v z = true → Bg b' q' → exL tab (runN tab fns (n + 1)) ((bM.drop 2).take 1) (w2 v fs ah) (bg b q :: τ) = .ok (.next (w3 v fs ah z)) (bg b' q' :: τ) → P) : P :=
  r_marble n b q 2 h (by decide) (by decide) τ fun m b0 q0 _ _ G e => match v with
    | .v0 => k false b q rfl h (by kernel_rfl)
    | .v1 _ => k (m == 0) b0 q0 rfl G (by3 e (fun F => exL tab F _ _ _) (fun G B => by kernel_rfl) (by kernel_rfl))
    | .v2 _ _ => k (m == 0) b0 q0 rfl G (by3 e (fun F => exL tab F _ _ _) (fun G B => by kernel_rfl) (by kernel_rfl))
end
theorem NBB_of {β : Type} {f g : Vc → Bool → Bool → β} (h : (lN.map fun v => lB.map fun a => lB.map fun b => f v a b) = (lN.map fun v => lB.map fun a => lB.map fun b => g v a b)) (v : Vc) (hv : v.isV0 = false) (a b : Bool) : f v a b = g v a b := L_of cB (L_of cB (N_of h v hv) a) b
theorem ok_of {v : Vc} {P : Bool → Bool → Prop} {a b : Bool} (ha : okBr v a = true) (hb : okBr v b = true) (h0 : v = .v0 → P false false) (h1 : v.isV0 = false → ∀ a b, P a b) : P a b := by
  cases v with
  | v0 =>
    cases a with
    | true => cases ha
    | false =>
      cases b with
      | true => cases hb
      | false => exact h0 rfl
  | _ => exact h1 rfl a b
section
variable {n : Nat} {v : Vc} {fs : PyData} {σ τ : Sg} {b q : Int} {P : Prop}
theorem lm4 {ah br : Bool} (h1 : okBr v ah = true) (h2 : okBr v br = true) : exL tab (runN tab fns (n + 1)) ((bM.drop 3).take 2) (w3 v fs ah br) σ = .ok (.next (w4 v fs ah br)) σ := by
  refine ok_of (P := fun ah br => exL tab (runN tab fns (n + 1)) ((bM.drop 3).take 2) (w3 v fs ah br) σ = .ok (.next (w4 v fs ah br)) σ) h1 h2 ?_ fun hv => ?_
  · rintro rfl; kernel_rfl
  · exact NBB_of (f := fun v ah br => exL tab (runN tab fns (n + 1)) ((bM.drop 3).take 2) (w3 v fs ah br) σ) (g := fun v ah br => .ok (.next (w4 v fs ah br)) σ) (by kernel_rfl) v hv
theorem pt_at (i : Int) (m : Int) (h0 : 0 ≤ m) (h1 : m < 2) : ((place 2 m).bind fun j => [pS (t "q"), pI i][j]?) = some (pt i (m == 1)) :=
  z2 h0 h1 (by rintro rfl; kernel_rfl) (by rintro rfl; kernel_rfl)
noncomputable def w4i (v : Vc) (fs : PyData) (ah br : Bool) (i : Option V) : Vs := [some (.o 0), some (.d (.list v.names)), some (.d fs), some (.d P0), some (.d (brc v)), vb ah, vb br, some (.d (calT v ah)), some (.d (newP v br)), none, none, none, none, none, none, none, i, none]
theorem lp_turn {i m b' q' : Int} {ah br : Bool} (e : runN tab fns (n + 1) 40 [.o 0, .d (.int 2)] (bg b q :: τ) = .ok (.d (.int m)) (bg b' q' :: τ)) (h0 : 0 ≤ m) (h1 : m < 2) :
    tF (runN tab fns (n + 1)) (bM.drop 5).hd.rhs (w4i v fs ah br (some (.d (.int i)))) (bg b q :: τ) = .ok (some (pt i (m == 1))) (bg b' q' :: τ) :=
  tF_is (sub_is (l := [pS (t "q"), pI i]) (by kernel_rfl) (call_o e rfl rfl) (pt_at i m h0 h1))
theorem lp_asg {F : Orc} {ah br : Bool} {l : List PyData} {ys : List PyData} {σ' : Sg} (hl : (decide (l.length ≤ 100000)) = true) (hm : (decide (0 ≤ (l.length : Int)) && decide ((l.length : Int) ≤ 1000)) = true) (h : turns (tF F (bM.drop 5).hd.rhs) (tT (bM.drop 5).hd.rhs) (w4i v (.list l) ah br none) (rangeD (Int.toNat l.length)) σ = .ok ys σ') :
    exL tab F ((bM.drop 5).take 1) (w4 v (.list l) ah br) σ = .ok (.next (w5 v (.list l) ah br ys)) σ' :=
  (seq_next (asg_v (comp_is (src_rngD (lift_is rfl (if_pos hl)) hm) h) (Nat.le_of_ble_eq_true rfl))).trans rfl
theorem lm5 {ks : Ks Kx} {ah br : Bool} (h : Bg b q) (k : ∀ (ps : Ks Bool) (b' q' : Int), Bg b' q' → (parts ps).length = (ks.fl fv).length → exL tab (runN tab fns (n + 1)) ((bM.drop 5).take 1) (w4 v (.list (ks.fl fv)) ah br) (bg b q :: τ) = .ok (.next (w5 v (.list (ks.fl fv)) ah br (parts ps))) (bg b' q' :: τ) → P) : P :=
  have D := fun b q G (k : ∀ m b' q', 0 ≤ m → m < 2 → _) => r_marble n b q 2 G (by decide) (by decide) τ (P := P) k
  D b q h fun m1 b1 q1 i1 j1 G1 e1 => D b1 q1 G1 fun m2 b2 q2 i2 j2 G2 e2 => D b2 q2 G2 fun m3 b3 q3 i3 j3 G3 e3 => match ks with
  | .n0 => k .n0 b q h rfl (lp_asg rfl rfl rfl)
  | .n1 _ => k (.n1 _) b1 q1 G1 rfl (lp_asg rfl rfl (turns1 rfl (lp_turn e1 i1 j1) rfl))
  | .n2 _ _ => k (.n2 _ _) b2 q2 G2 rfl (lp_asg rfl rfl (turns1 rfl (lp_turn e1 i1 j1) (turns1 rfl (lp_turn e2 i2 j2) rfl)))
  | .n3 _ _ _ => k (.n3 _ _ _) b3 q3 G3 rfl (lp_asg rfl rfl (turns1 rfl (lp_turn e1 i1 j1) (turns1 rfl (lp_turn e2 i2 j2) (turns1 rfl (lp_turn e3 i3 j3) rfl))))
theorem lm6 {ps : Ks Bool} {ah br : Bool} (h : Bg b q) (k : ∀ (r : Bool) (b' q' : Int), Bg b' q' → exL tab (runN tab fns (n + 1)) ((bM.drop 6).take 1) (w5 v fs ah br (parts ps)) (bg b q :: τ) = .ok (.next (w6 v fs ah br (parts ps) r)) (bg b' q' :: τ) → P) : P :=
  r_marble n b q 2 h (by decide) (by decide) τ fun m b0 q0 _ _ G e => k (m == 0) b0 q0 G (by cases ps <;> exact by2 e (fun F => exL tab F _ _ _) (fun G => by kernel_rfl) (by kernel_rfl))
noncomputable def mkT (v : Vc) (ah br w : Bool) (ps : Ks Bool) : PyData := .tuple [pE (t "function") [headT v ah, bodyT v br w ps], calT v ah, orN (kindK v ah br), .list (parts ps), .bool w]
theorem lm7 {ah br : Bool} {ps : Ks Bool} (h1 : okBr v ah = true) (h2 : okBr v br = true) (w : Bool) : fin (exL tab (runN tab fns (n + 1)) (bM.drop 7) (w6 v fs ah br (parts ps) w) σ) = .ok (.d (mkT v ah br w ps)) σ := by
  refine ok_of (P := fun ah br => fin (exL tab (runN tab fns (n + 1)) (bM.drop 7) (w6 v fs ah br (parts ps) w) σ) = .ok (.d (mkT v ah br w ps)) σ) h1 h2 ?_ fun hv => ?_
  · rintro rfl; revert w; exact B_of (by kernel_rfl)
  · refine NBB_of (f := fun v ah br => fin (exL tab (runN tab fns (n + 1)) (bM.drop 7) (w6 v fs ah br (parts ps) w) σ)) (g := fun v ah br => .ok (.d (mkT v ah br w ps)) σ) ?_ v hv
    revert w; exact B_of (by kernel_rfl)
theorem r_maker (n : Nat) (v : Vc) (ks : Ks Kx) (b q : Int) (h : Bg b q) (τ : Sg) (k : ∀ (ah br w : Bool) (ps : Ks Bool) (b' q' : Int), Bg b' q' → okBr v br = true → (parts ps).length = (ks.fl fv).length → runN tab fns (n + 2) 44 [.o 0, .d (.list v.names), .d (.list (ks.fl fv))] (bg b q :: τ) = .ok (.d (mkT v ah br w ps)) (bg b' q' :: τ) → P) : P :=
  lm2 h fun ah _ _ o1 G1 e1 => lm3 G1 fun br _ _ o2 G2 e2 => lm5 G2 fun ps _ _ G3 hl e3 => lm6 G3 fun w b4 q4 G4 e4 => k ah br w ps b4 q4 G4 o2 hl ((run_at (f := f_law_maker) rfl _ _ rfl).trans
    ((congrArg fin ((seq_take 1 bM (lm1 v)).trans ((seq_take 1 (bM.drop 1) e1).trans ((seq_take 1 (bM.drop 2) e2).trans ((seq_take 2 (bM.drop 3) (lm4 o1 o2)).trans ((seq_take 1 (bM.drop 5) e3).trans (seq_take 1 (bM.drop 6) e4))))))).trans (lm7 o1 o2 w)))
end
noncomputable def Ab.raw : Ab → PyData
  | .non => .none
  | .sh => pS (t "Shape")
  | .shT => pE (t "curly") [pS (t "Shape"), pS (t "T")]
noncomputable def ur : Bool → PyData
  | false => .none
  | true => pS (t "Integer")
noncomputable def Vc.ups : Vc → List PyData
  | .v0 => []
  | .v1 u => [ur u]
  | .v2 u w => [ur u, ur w]
noncomputable abbrev bR := f_law_rows_due.body
noncomputable def lastN : Vc → Option V
  | .v0 => none
  | .v1 _ => some (.d (s "T"))
  | .v2 _ _ => some (.d (s "S"))
noncomputable def lastU : Vc → Option V
  | .v0 => none
  | .v1 u => some (.d (ur u))
  | .v2 _ w => some (.d (ur w))
noncomputable def begL (v : Vc) (a : Ab) (b : Bool) : List PyData := pV "builtin" (s "begin_kind") :: ([pV "sym" (s "P"), boolT b, boolT false, a.due v] ++ v.rows)
theorem rd1 (n : Nat) (v : Vc) (a : Ab) (b : Bool) (fs : PyData) : exL tab (runN tab fns (n + 4)) (bR.take 5) [some (.d (.bool b)), some (.d a.raw), some (.d (.list v.names)), some (.d (.list v.ups)), some (.d fs), none, none, none, none, none, none, none, none, none] []
    = .ok (.next [some (.d (.bool b)), some (.d a.raw), some (.d (.list v.names)), some (.d (.list v.ups)), some (.d fs), lastN v, some (.o 0), some (.d anyT), some (.o 1), lastU v, none, none, none, none]) [.dct v.tb, .lst false (begL v a b)] := by
  revert v a; exact VA_of (by kernel_rfl)
noncomputable def lastK (x : Option V) : Ks Kx → Option V × Option V
  | .n0 => (x, none)
  | .n1 a => (some (.d (s "f0")), some (.d (kd a)))
  | .n2 _ a => (some (.d (s "f1")), some (.d (kd a)))
  | .n3 _ _ a => (some (.d (s "f2")), some (.d (kd a)))
noncomputable def endL (tb : List (Str × PyData)) (ks : Ks Sh) : List PyData := pV "builtin" (s "end_kind") :: pV "sym" (s "P") :: endR tb ks
theorem rd2 (n : Nat) (tb : List (Str × PyData)) (ks : Ks Sh) (x0 x1 x2 x3 x5 x8 x9 : Option V) (c1 : Cell) : exL tab (runN tab fns (n + 4)) ((bR.drop 5).take 2) [x0, x1, x2, x3, some (.d (.list ((ks.map Sh.kx).fl fv))), x5, some (.o 0), some (.d anyT), x8, x9, none, none, none, none] [.dct tb, c1]
    = .ok (.next [x0, x1, x2, x3, some (.d (.list ((ks.map Sh.kx).fl fv))), (lastK x5 (ks.map Sh.kx)).1, some (.o 0), some (.d anyT), x8, x9, some (.o 2), (lastK x5 (ks.map Sh.kx)).2, none, none]) [.dct tb, c1, .lst false (endL tb ks)] := by
  revert ks; exact S_of fun _ _ _ => by kernel_rfl
theorem lst_is {F : Orc} {vs : Vs} {σ σ' : Sg} {p : Pos} {xs : XL} {ys : List PyData} (h : evD tab F vs xs σ = .ok ys σ') : ev tab F vs (.lst xs p) σ = .ok (.d (.list ys)) σ' := by
  show (evD tab F vs xs σ).bind _ = _
  rw [h]; rfl
theorem ex_do {F : Orc} (h : Str) (L : List PyData) (hL : L.length ≤ 100000) (x : PyData) (hx : items? x = some L) : exL tab F f_expr.body [some (.d (.str h)), some (.d x)] [] = .ok (.ret (.d (pE h L))) [] :=
  seq_r (ret_d (tup_is (d_cons rfl (d_cons rfl (d_cons (lift_is (o := bcallop .tuple x) rfl (by unfold bcallop; rw [hx]; exact if_pos (decide_eq_true hL))) rfl)))))
theorem r_expr (n : Nat) (h : Str) (L : List PyData) (hL : L.length ≤ 100000) : runN tab fns (n + 1) 0 [.d (.str h), .d (.list L)] [] = .ok (.d (pE h L)) [] := (run_at (f := f_expr) rfl _ _ rfl).trans (congrArg fin (ex_do h L hL _ rfl))
theorem rd3 (n : Nat) (L K : List PyData) (hL : L.length ≤ 1000) (hK : K.length ≤ 1000) (c0 : Cell) (x0 x1 x2 x3 x4 x5 x6 x7 x9 x11 x12 x13 : Option V) : exL tab (runN tab fns (n + 1)) (bR.drop 7) [x0, x1, x2, x3, x4, x5, x6, x7, some (.o 1), x9, some (.o 2), x11, x12, x13] [c0, .lst false L, .lst false K]
    = .ok (.ret (.d (.list [pE (t "call") L, pE (t "call") K]))) [c0, .lst true L, .lst true K] :=
  seq_r (ret_d (lst_is (d_cons (call_d (r_expr n (t "call") L (Nat.le_trans hL (by decide))) rfl rfl rfl) (d_cons (call_d (r_expr n (t "call") K (Nat.le_trans hK (by decide))) rfl rfl rfl) rfl))))
theorem r_rows_due (n : Nat) (v : Vc) (a : Ab) (b : Bool) (ks : Ks Sh) : runN tab fns (n + 5) 48 [.d (.bool b), .d a.raw, .d (.list v.names), .d (.list v.ups), .d (.list ((ks.map Sh.kx).fl fv))] [] = .ok (.d (.list [begD v a b, endD v.tb ks])) [.dct v.tb, .lst true (begL v a b), .lst true (endL v.tb ks)] :=
  (run_at (f := f_law_rows_due) rfl _ _ rfl).trans ((congrArg fin ((seq_take 5 bR (rd1 n v a b _)).trans ((seq_take 2 (bR.drop 5) (rd2 n v.tb ks _ _ _ _ _ _ _ _)).trans (rd3 (n + 3) _ _ (by cases v <;> exact Nat.le_of_ble_eq_true (by kernel_rfl)) (by cases ks <;> exact Nat.le_of_ble_eq_true (by kernel_rfl)) _ _ _ _ _ _ _ _ _ _ _ _ _)))).trans rfl)
noncomputable def wrt : Ks Kx → List PyData
  | .n0 => []
  | .n1 _ => [.int 7]
  | .n2 _ _ => [.int 7, .int 8]
  | .n3 _ _ _ => [.int 7, .int 8, .int 9]
noncomputable def asW (i : Int) : Kx → PyData
  | none => .int i
  | some ts => .tuple [s "as", .tuple ts, .int i]
noncomputable def oth : Ks Kx → List PyData
  | .n0 => []
  | .n1 a => [asW 7 a]
  | .n2 a b => [asW 7 a, asW 8 b]
  | .n3 a b c => [asW 7 a, asW 8 b, asW 9 c]
noncomputable abbrev kds (ks : Ks Kx) : List PyData := ks.fl fun _ k => kd k
noncomputable abbrev nons (ks : Ks Kx) : List PyData := ks.fl fun _ _ => .none
noncomputable abbrev madeT (k : PyData) (ws : List PyData) : PyData := .tuple [s "made", k, .list ws]
noncomputable abbrev seenT (c : PyData) (vs ks : List PyData) (m : PyData) : PyData := .tuple [c, .tuple vs, .list ks, m]
noncomputable def dueD (v : Vc) (ks : Ks Sh) : List PyData := match v with
  | .v0 => seenT P0 [] (kds (ks.map Sh.kx)) (madeT P0 (wrt (ks.map Sh.kx))) :: (if (ks.map Sh.kx).allN then [] else [seenT P0 [] (nons (ks.map Sh.kx)) (madeT P0 (oth (ks.map Sh.kx)))])
  | v => seenT v.whole v.trees (nons (ks.map Sh.kx)) (madeT v.whole (oth (ks.map Sh.kx))) :: (if covers v (told ks) then [seenT P0 v.trees (kds (ks.map Sh.kx)) (madeT v.whole (wrt (ks.map Sh.kx)))] else [])
noncomputable def valOf (r : Out V) : Option PyData := match r with
  | .ok (.d x) _ => some x
  | _ => none
theorem of_val {r : Out V} {x : PyData} (h : valOf r = some x) : ∃ τ, r = .ok (.d x) τ := by
  cases r with
  | stuck => cases h
  | ex => cases h
  | ok v σ =>
    cases v with
    | o k => cases h
    | d y => cases h; exact ⟨σ, rfl⟩
theorem V3_of {β : Type} {f g : Vc → β} (h : ∀ u w, [Vc.v0, .v1 u, .v2 u w].map f = [Vc.v0, .v1 u, .v2 u w].map g) : ∀ v, f v = g v
  | .v0 => List.map_inj_left.mp (h false false) _ (at_mem 0 rfl)
  | .v1 u => List.map_inj_left.mp (h u false) _ (at_mem 1 rfl)
  | .v2 u w => List.map_inj_left.mp (h u w) _ (at_mem 2 rfl)
theorem V3X_of {β : Type} {f g : Vc → Ks Kx → β} (h : ∀ t u w x y, ([Vc.v0, .v1 x, .v2 x y].map fun v => aK (lX t) (lX u) (lX w) (f v)) = ([Vc.v0, .v1 x, .v2 x y].map fun v => aK (lX t) (lX u) (lX w) (g v))) : ∀ v ks, f v ks = g v ks := fun v => X_of fun t u w => V3_of (fun x y => h t u w x y) v
theorem seen1 (n : Nat) (v : Vc) (ks : Ks Kx) (c k : PyData) : valOf (runN tab fns (n + 4) 46 [.d (fnT c (ks.fl ft) v.trees (newT k (ks.fl pl)))] []) = some (seenT c v.trees (kds ks) (madeT k (wrt ks))) := by
  revert v ks; exact V3X_of fun _ _ _ _ _ => by kernel_rfl
theorem seen2 (n : Nat) (v : Vc) (ks : Ks Kx) (c k : PyData) : valOf (runN tab fns (n + 4) 46 [.d (fnT c (ks.fl pl) v.trees (newT k (ks.fl cv)))] []) = some (seenT c v.trees (nons ks) (madeT k (oth ks))) := by
  revert v ks; exact V3X_of fun _ _ _ _ _ => by kernel_rfl
noncomputable def pw (i : Int) : Bool → PyData
  | false => .int 7
  | true => .int i
noncomputable def pws : Ks Bool → List PyData
  | .n0 => []
  | .n1 a => [pw 0 a]
  | .n2 a b => [pw 0 a, pw 1 b]
  | .n3 a b c => [pw 0 a, pw 1 b, pw 2 c]
noncomputable def wrapD (w : Bool) (m : PyData) : PyData := match w with
  | true => .tuple [s "called", pS (t "seen"), .list [m]]
  | false => m
noncomputable def headC (v : Vc) (c : PyData) : PyData := match v with
  | .v0 => pE (t "call") [c, pS (t "q")]
  | v => pE (t "where") (pE (t "call") [c, pS (t "q")] :: v.syms)
theorem VBP_of {β : Type} {f g : Vc → Bool → Ks Bool → β} (h : ∀ x y, ([Vc.v0, .v1 x, .v2 x y].map fun v => lB.map fun a => aK lB lB lB (f v a)) = ([Vc.v0, .v1 x, .v2 x y].map fun v => lB.map fun a => aK lB lB lB (g v a))) : ∀ v a ps, f v a ps = g v a ps := fun v a => P_of (L_of cB (V3_of h v) a)
theorem seen3 (n : Nat) (v : Vc) (w : Bool) (ps : Ks Bool) (c k : PyData) : valOf (runN tab fns (n + 6) 46 [.d (pE (t "function") [headC v c, wrapT w (newT k (parts ps))])] []) = some (seenT c v.syms [.none] (wrapD w (madeT k (pws ps)))) := by
  revert v w ps; exact VBP_of fun _ _ => by kernel_rfl
theorem headC_T (v : Vc) (ah : Bool) : headT v ah = headC v (calT v ah) := by
  cases v <;> rfl
noncomputable abbrev bU := f_law_default_due.body
noncomputable abbrev vU (v : Vc) (fs a b c d e f g : Option V) : Vs := [some (.d (.list v.names)), some (.d (.list v.trees)), fs, a, b, c, d, e, f, g, none, none, none, none, none, none]
theorem dd1 (n : Nat) (v : Vc) (ks : Ks Kx) : exL tab (runN tab fns (n + 1)) (bU.take 4) (vU v (some (.d (.list (ks.fl fv)))) none none none none none none none) []
    = .ok (.next (vU v (some (.d (.list (ks.fl fv)))) (some (.d P0)) (some (.d (.list (wrt ks)))) (some (.d (.list (oth ks)))) (some (.d (.list (kds ks)))) none none none)) [] := by
  revert ks; exact X_of fun _ _ _ => by kernel_rfl
theorem dd2 (n : Nat) (ks : Ks Sh) (fs : Option V) : valOf (fin (exL tab (runN tab fns (n + 1)) (bU.drop 4) (vU .v0 fs (some (.d P0)) (some (.d (.list (wrt (ks.map Sh.kx))))) (some (.d (.list (oth (ks.map Sh.kx))))) (some (.d (.list (kds (ks.map Sh.kx))))) none none none) [])) = some (.list (dueD .v0 ks)) := by
  revert ks; exact S_of fun _ _ _ => by kernel_rfl
theorem dd3 (n : Nat) (v : Vc) (hv : v.isV0 = false) (ks : Ks Kx) (fs x y : Option V) : exL tab (runN tab fns (n + 1)) ((bU.drop 4).take 3) (vU v fs (some (.d P0)) x (some (.d (.list (oth ks)))) (some (.d (.list (kds ks)))) none none none) []
    = .ok (.next (vU v fs (some (.d P0)) x (some (.d (.list (oth ks)))) (some (.d (.list (kds ks)))) (some (.o 0)) (some (.d v.whole)) none)) [.lst false [seenT v.whole v.trees (nons ks) (madeT v.whole (oth ks))]] := by
  cases v with
  | v0 => cases hv
  | v1 u => revert ks; exact X_of fun _ _ _ => by kernel_rfl
  | v2 u w => revert ks; exact X_of fun _ _ _ => by kernel_rfl
theorem dd4 (n : Nat) (v : Vc) (L : PyData) (w : Str) (h : bcallop .str L = some (.str w)) (fs a b c e f : Option V) (σ : Sg) : exL tab (runN tab fns n) ((bU.drop 7).take 1) (vU v fs a b c (some (.d L)) e f none) σ = .ok (.next (vU v fs a b c (some (.d L)) e f (some (.d (.str w))))) σ :=
  (seq_next (asg_v (lift_is (by kernel_rfl) h) (Nat.le_of_ble_eq_true rfl))).trans rfl
section
variable {F : Orc} {vs : Vs} {σ σ' : Sg} {p : Pos}
theorem cmp_c {op : CmpOp} {a b : X} {x y : PyData} {z : Bool} (ha : ev tab F vs a σ = .ok (.d x) σ') (hb : ev tab F vs b σ' = .ok (.d y) σ') (h : cmpop op x y = some z) : ev tab F vs (.cmp op a b p) σ = .ok (.d (.bool z)) σ' := by
  show (ev tab F vs a σ).bind _ = _
  rw [ha]
  show (ev tab F vs b σ').bind _ = _
  rw [hb]
  have e : cmpV op (.d x) (.d y) σ' = lift σ' ((cmpop op x y).map .bool) := by cases op <;> first | rfl | (cases x <;> rfl)
  exact lift_is e (by rw [h]; rfl)
theorem tF_b {elt x y c : X} {tg : Tg} {sk : SK} {tb : List (Str × Nat)} {sc : Scope} {d : PyData} {z : Bool} (hc : ev tab F vs c σ = .ok (.d (.bool z)) σ) (h : ev tab F vs elt σ = .ok (.d d) σ) : tF F (.comp elt tg sk x y (.cons c .nil) tb sc p) vs σ = .ok (bif z then some d else none) σ := by
  show ((ev tab F vs c σ).bind _).bind _ = _
  rw [hc]
  cases z with
  | false => rfl
  | true =>
    show (ev tab F vs elt σ).bind _ = _
    rw [h]; rfl
end
noncomputable def oc (o : Option PyData) (ys : List PyData) : List PyData := match o with | some y => y :: ys | none => ys
theorem turns_o {f : Vs → Sg → Out (Option PyData)} {tg : Tg} {vs vs' : Vs} {x : PyData} {o : Option PyData} {r ys : List PyData} {σ σ' σ'' : Sg} (hb : bindT vs tg x = some vs') (h : f vs' σ = .ok o σ') (h2 : turns f tg vs' r σ' = .ok ys σ'') : turns f tg vs (x :: r) σ = .ok (oc o ys) σ'' := by
  cases o with
  | none => exact turns0 hb h h2
  | some y => exact turns1 hb h h2
noncomputable def tells (v : Vc) (w : Str) : Bool := match v with
  | .v0 => true
  | .v1 _ => !decide ((Txt.count w (t "'T'") : Int) = 0)
  | .v2 _ _ => !decide ((Txt.count w (t "'T'") : Int) = 0) && !decide ((Txt.count w (t "'S'") : Int) = 0)
theorem dd5 (n : Nat) (v : Vc) (hv : v.isV0 = false) (w : Str) (fs a b c d e f : Option V) (σ : Sg) : ev tab (runN tab fns n) (vU v fs a b c d e f (some (.d (.str w)))) (bU.drop 8).hd.cnd σ = .ok (.d (.bool (tells v w))) σ := by
  cases v with
  | v0 => cases hv
  | v1 u => exact cmp_c (comp_is rfl (turns_o rfl (tF_b (z := decide ((Txt.count w (t "'T'") : Int) = 0)) (by kernel_rfl) rfl) rfl)) rfl (B_of (f := fun z => cmpop .Eq (.list (oc (bif z then some (s "T") else none) [])) (.list [])) (g := fun z => some !z) (by kernel_rfl) _)
  | v2 u x => exact cmp_c (comp_is rfl (turns_o rfl (tF_b (z := decide ((Txt.count w (t "'T'") : Int) = 0)) (by kernel_rfl) rfl) (turns_o rfl (tF_b (z := decide ((Txt.count w (t "'S'") : Int) = 0)) (by kernel_rfl) rfl) rfl))) rfl (L_of cB (B_of (f := fun z => lB.map fun x => cmpop .Eq (.list (oc (bif z then some (s "T") else none) (oc (bif x then some (s "S") else none) []))) (.list [])) (g := fun z => lB.map fun x => some (!z && !x)) (by kernel_rfl) _) _)
theorem dd6 (n : Nat) (v : Vc) (hv : v.isV0 = false) (fs c x : Option V) (wr kk d : PyData) : exL tab (runN tab fns n) (bU.drop 8).hd.thn (vU v fs (some (.d P0)) (some (.d wr)) c (some (.d kk)) (some (.o 0)) (some (.d v.whole)) x) [.lst false [d]] = .ok (.next (vU v fs (some (.d P0)) (some (.d wr)) c (some (.d kk)) (some (.o 0)) (some (.d v.whole)) x)) [.lst false [d, .tuple [P0, .tuple v.trees, kk, .tuple [s "made", v.whole, wr]]]] := by
  rcases v with _ | u | ⟨u, w⟩
  · cases hv
  · kernel_rfl
  · kernel_rfl
theorem r_default_due (n : Nat) (v : Vc) (ks : Ks Sh) (w : Str) (h : bcallop .str (.list (kds (ks.map Sh.kx))) = some (.str w)) (hw : tells v w = covers v (told ks)) : ∃ τ, runN tab fns (n + 2) 47 [.d (.list v.names), .d (.list v.trees), .d (.list ((ks.map Sh.kx).fl fv))] [] = .ok (.d (.list (dueD v ks))) τ := by
  cases hv : v.isV0 with
  | true =>
    rcases v with _ | u | ⟨u, z⟩
    · refine of_val ((congrArg valOf ((run_at (f := f_law_default_due) rfl _ _ rfl).trans (congrArg fin (seq_take 4 bU (dd1 n .v0 (ks.map Sh.kx)))))).trans (dd2 n ks _))
    · cases hv
    · cases hv
  | false =>
    have e1 := (seq_take 4 bU (dd1 n v (ks.map Sh.kx))).trans ((seq_take 3 (bU.drop 4) (dd3 n v hv (ks.map Sh.kx) _ _ none)).trans (seq_take 1 (bU.drop 7) (dd4 (n + 1) v _ w h _ _ _ _ _ _ _)))
    have hD : dueD v ks = seenT v.whole v.trees (nons (ks.map Sh.kx)) (madeT v.whole (oth (ks.map Sh.kx))) :: (if covers v (told ks) then [seenT P0 v.trees (kds (ks.map Sh.kx)) (madeT v.whole (wrt (ks.map Sh.kx)))] else []) := by
      rcases v with _ | u | ⟨u, z⟩
      · cases hv
      · rfl
      · rfl
    cases hc : covers v (told ks) with
    | true =>
      refine ⟨[.lst true (dueD v ks)], (run_at (f := f_law_default_due) rfl _ _ rfl).trans ((congrArg fin (e1.trans (seq_next (r := bU.drop 9) ((if_t (a := (bU.drop 8).hd.thn) (b := .nil) (p := ⟨329, 4, 330, 70⟩) ((dd5 (n + 1) v hv w _ _ _ _ _ _ _ _).trans (by rw [hw, hc]))).trans (dd6 (n + 1) v hv _ _ _ _ _ _))))).trans ?_)⟩
      rw [hD, hc]; rfl
    | false =>
      refine ⟨[.lst true (dueD v ks)], (run_at (f := f_law_default_due) rfl _ _ rfl).trans ((congrArg fin (e1.trans (seq_next (r := bU.drop 9) ((if_f (a := (bU.drop 8).hd.thn) (b := .nil) (p := ⟨329, 4, 330, 70⟩) ((dd5 (n + 1) v hv w _ _ _ _ _ _ _ _).trans (by rw [hw, hc]))).trans rfl)))).trans ?_)⟩
      rw [hD, hc]; rfl
theorem map_rx (ks : Ks Rk) : ks.map rx = (ks.map Rk.sh).map Sh.kx := by
  cases ks <;> rfl
noncomputable def shwn (ks : Ks Rk) : Str := (PyData.list (kds ((ks.map Rk.sh).map Sh.kx))).shown
noncomputable def kt : Rk → List Nat
  | .non => [78, 111, 110, 101]
  | .i64 => [40, 39, 115, 121, 109, 39, 44, 32, 39, 73, 110, 116, 54, 52, 39, 41]
  | .tT => [40, 39, 115, 121, 109, 39, 44, 32, 39, 84, 39, 41]
  | .tS => [40, 39, 115, 121, 109, 39, 44, 32, 39, 83, 39, 41]
  | .vT => [40, 39, 101, 120, 112, 114, 39, 44, 32, 39, 99, 117, 114, 108, 121, 39, 44, 32, 40, 40, 39, 115, 121, 109, 39, 44, 32, 39, 86, 101, 99, 116, 111, 114, 39, 41, 44, 32, 40, 39, 115, 121, 109, 39, 44, 32, 39, 84, 39, 41, 41, 41]
noncomputable def lst : Ks Rk → List Nat
  | .n0 => [91, 93]
  | .n1 a => 91 :: (kt a ++ [93])
  | .n2 a b => 91 :: (kt a ++ ([44, 32] ++ (kt b ++ [93])))
  | .n3 a b c => 91 :: (kt a ++ ([44, 32] ++ (kt b ++ ([44, 32] ++ (kt c ++ [93])))))
noncomputable def lR : List Rk := [.non, .i64, .tT, .tS, .vT]
theorem cR : ∀ a, a ∈ lR
  | .non => at_mem 0 rfl
  | .i64 => at_mem 1 rfl
  | .tT => at_mem 2 rfl
  | .tS => at_mem 3 rfl
  | .vT => at_mem 4 rfl
theorem R_of {β : Type} {f g : Ks Rk → β} (h : aK lR lR lR f = aK lR lR lR g) : ∀ ks, f ks = g ks := aK_of (L := fun _ : Unit => lR) (fun a => ⟨(), cR a⟩) () fun _ _ _ => h
theorem app_l (x y : Str) : (x ++ y).cps.toList = x.cps.toList ++ y.cps.toList := Array.toList_append
theorem sh_k (k : Rk) : (PyData.shown (kd k.sh.kx)).cps.toList = kt k := by revert k; exact L_of cR (by kernel_rfl)
noncomputable def lb : Str := t "[" ++ t ""
theorem lstt_is (ks : Ks Rk) : (shwn ks).cps.toList = lst ks := by
  cases ks with
  | n0 => kernel_rfl
  | n1 a =>
    show ((lb ++ (PyData.shown (kd a.sh.kx))) ++ t "]").cps.toList = _
    rw [app_l, app_l, sh_k]; kernel_rfl
  | n2 a b =>
    show ((((lb ++ (PyData.shown (kd a.sh.kx))) ++ t ", ") ++ (PyData.shown (kd b.sh.kx))) ++ t "]").cps.toList = _
    rw [app_l, app_l, app_l, app_l, sh_k, sh_k, List.append_assoc, List.append_assoc, List.append_assoc]; kernel_rfl
  | n3 a b c =>
    show ((((((lb ++ (PyData.shown (kd a.sh.kx))) ++ t ", ") ++ (PyData.shown (kd b.sh.kx))) ++ t ", ") ++ (PyData.shown (kd c.sh.kx))) ++ t "]").cps.toList = _
    rw [app_l, app_l, app_l, app_l, app_l, app_l, sh_k, sh_k, sh_k, List.append_assoc, List.append_assoc, List.append_assoc, List.append_assoc, List.append_assoc]; kernel_rfl
noncomputable def hasSub (y : List Nat) : List Nat → Bool
  | [] => y.isEmpty
  | c :: r => y.isPrefixOf (c :: r) || hasSub y r
theorem hasSub_iff (y l : List Nat) : hasSub y l = true ↔ ∃ k, y <+: l.drop k := by
  induction l with
  | nil =>
    cases y with
    | nil => exact ⟨fun _ => ⟨0, List.nil_prefix⟩, fun _ => rfl⟩
    | cons a y => exact ⟨fun h => (by cases h), fun ⟨k, h⟩ => (by rw [List.drop_nil] at h; exact absurd (List.prefix_nil.mp h) (by simp))⟩
  | cons c r ih =>
    show (y.isPrefixOf (c :: r) || hasSub y r) = true ↔ _
    rw [Bool.or_eq_true, ih, List.isPrefixOf_iff_prefix]
    constructor
    · rintro (h | ⟨k, h⟩)
      · exact ⟨0, h⟩
      · exact ⟨k + 1, h⟩
    · rintro ⟨k, h⟩
      cases k with
      | zero => exact .inl h
      | succ k => exact .inr ⟨k, h⟩
theorem at_iff (x y : Str) (k : Nat) (hk : k ≤ x.length) : StrLaws.At x y x.length k ↔ y.cps.toList <+: x.cps.toList.drop k := by
  unfold StrLaws.At Builtin.Str.subAt
  rw [beq_iff_eq, List.prefix_iff_eq_take]
  constructor
  · rintro ⟨h1, h2⟩
    have := congrArg Array.toList h2
    rw [Array.toList_extract, List.extract_eq_take_drop, Nat.add_sub_cancel_left] at this
    exact this.symm
  · intro h
    refine ⟨?_, Array.toList_inj.mp ?_⟩
    · have hl := congrArg List.length h
      rw [List.length_take, List.length_drop] at hl
      have := Nat.add_le_of_le_sub hk (Nat.le_trans (Nat.le_of_eq hl) (Nat.min_le_right _ _))
      rw [Nat.add_comm] at this
      exact this
    · rw [Array.toList_extract, List.extract_eq_take_drop, Nat.add_sub_cancel_left]
      exact h.symm
theorem count_sub (x y : Str) (hy : 1 ≤ y.length) : (!decide ((Txt.count x y : Int) = 0)) = hasSub y.cps.toList x.cps.toList := by
  obtain ⟨f, hG, hn⟩ := StrLaws.occ_tight x y hy
  unfold Txt.count
  have hxl : x.length = x.cps.toList.length := rfl
  have hyl : y.length = y.cps.toList.length := rfl
  cases ho : Builtin.Str.occurrences x y 0 x.length (x.length + 1) with
  | nil =>
    rw [ho] at hG
    have e : f = 0 := hG
    subst e
    have : hasSub y.cps.toList x.cps.toList = false := by
      cases hh : hasSub y.cps.toList x.cps.toList with
      | false => rfl
      | true =>
        obtain ⟨k, hk⟩ := (hasSub_iff _ _).mp hh
        have hl := hk.length_le
        rw [List.length_drop] at hl
        exact absurd ((at_iff x y k (Nat.le_of_lt (Nat.lt_of_sub_pos (Nat.lt_of_lt_of_le hy hl)))).mpr hk) (hn k (Nat.zero_le _))
    rw [this]; rfl
  | cons a r =>
    rw [ho] at hG
    obtain ⟨_, hA, _⟩ := hG
    have : hasSub y.cps.toList x.cps.toList = true := (hasSub_iff _ _).mpr ⟨a, (at_iff x y a (Nat.le_trans (Nat.le_add_right _ _) hA.1)).mp hA⟩
    rw [this]
    have : ¬ (((a :: r).length : Nat) : Int) = 0 := fun h => Nat.succ_ne_zero r.length (Int.ofNat_inj.mp h)
    rw [decide_eq_false this]; rfl
theorem y_T : (t "'T'").cps.toList = [39, 84, 39] := by kernel_rfl
theorem y_S : (t "'S'").cps.toList = [39, 83, 39] := by kernel_rfl
theorem str_T (ks : Ks Rk) : (!decide ((Txt.count (shwn ks) (t "'T'") : Int) = 0)) = ((told (ks.map Rk.sh)).any fun z => z.eqv (s "T")) := by
  rw [count_sub _ _ (by show 1 ≤ (t "'T'").cps.toList.length; rw [y_T]; decide), y_T, lstt_is]
  revert ks; exact R_of (by kernel_rfl)
theorem str_S (ks : Ks Rk) : (!decide ((Txt.count (shwn ks) (t "'S'") : Int) = 0)) = ((told (ks.map Rk.sh)).any fun z => z.eqv (s "S")) := by
  rw [count_sub _ _ (by show 1 ≤ (t "'S'").cps.toList.length; rw [y_S]; decide), y_S, lstt_is]
  revert ks; exact R_of (by kernel_rfl)
theorem lst_ok (ks : Ks Rk) : ((lst ks).all (· < 0x110000) && decide ((lst ks).length ≤ 100000)) = true := by
  revert ks; exact R_of (by kernel_rfl)
theorem kds_ok (ks : Ks Rk) : (decide ((PyData.list (kds ((ks.map Rk.sh).map Sh.kx))).depth ≤ 900) && (PyData.list (kds ((ks.map Rk.sh).map Sh.kx))).showable) = true := by
  revert ks; exact R_of (by kernel_rfl)
theorem str_1 (ks : Ks Rk) : bcallop .str (.list (kds ((ks.map Rk.sh).map Sh.kx))) = some (.str (shwn ks)) := by
  have h := Bool.and_eq_true_iff.mp (lst_ok ks)
  rw [← lstt_is] at h
  have e1 : (PyData.str (shwn ks)).canLay0 = true := by
    show (shwn ks).cps.all (· < 0x110000) = true
    rw [← Array.all_toList]; exact h.1
  have e2 : (shwn ks).length ≤ 100000 := of_decide_eq_true h.2
  have e3 := kds_ok ks
  unfold bcallop
  simp only [e3]
  change (if (true && (PyData.str (shwn ks)).canLay0 && decide ((shwn ks).length ≤ 100000)) = true then _ else _) = _
  rw [e1, decide_eq_true e2]
  rfl
theorem str_tells (v : Vc) (ks : Ks Rk) : tells v (shwn ks) = covers v (told (ks.map Rk.sh)) := by
  rcases v with _ | u | ⟨u, w⟩
  · rfl
  · simp only [tells, str_T, covers, Vc.names, List.all_cons, List.all_nil, Bool.and_true]
  · simp only [tells, str_T, str_S, covers, Vc.names, List.all_cons, List.all_nil, Bool.and_true]
noncomputable abbrev bW := f_law.body
noncomputable abbrev fds (ks : Ks Rk) : PyData := .list (((ks.map Rk.sh).map Sh.kx).fl fv)
noncomputable abbrev OwnM := Option (Bool × Bool × Bool × Ks Bool)
noncomputable def ownV (v : Vc) : OwnM → PyData
  | none => .none
  | some (ah, br, w, ps) => mkT v ah br w ps
noncomputable def ownOk (v : Vc) : OwnM → Prop
  | none => True
  | some (_, br, _, _) => okBr v br = true
noncomputable def ownMk (v : Vc) : OwnM → Mk
  | none => none
  | some (ah, br, w, ps) => mkO v ah br w ps
noncomputable def vW (x0 x1 x2 x3 x4 x5 x6 x7 x8 x9 x10 x11 x12 x13 x14 x15 x16 : Option V) : Vs := [x0, x1, x2, x3, x4, x5, x6, x7, x8, x9, x10, x11, x12, x13, x14, x15, x16, none, none, none, none, none, none, none]
noncomputable def dl (l : List PyData) : Option V := some (.d (.list l))
noncomputable def u0 (L : PyData) : Vs := vW (some (.d L)) none none none none none none none none none none none none none none none none
noncomputable def u1 (L : PyData) : Vs := vW (some (.d L)) (some (.o 0)) none none none none none none none none none none none none none none none
noncomputable def u2 (L : PyData) (N : List PyData) : Vs := vW (some (.d L)) (some (.o 0)) (dl N) none none none none none none none none none none none none none none
noncomputable def u3 (L : PyData) (v : Vc) : Vs := vW (some (.d L)) (some (.o 0)) (dl v.names) (dl v.ups) none none none none none none none none none none none none none
noncomputable def u4 (L : PyData) (v : Vc) : Vs := vW (some (.d L)) (some (.o 0)) (dl v.names) (dl v.ups) (dl v.trees) none none none none none none none none none none none none
noncomputable def u5 (L : PyData) (v : Vc) (ks : Ks Rk) (mu : Bool) : Vs := vW (some (.d L)) (some (.o 0)) (dl v.names) (dl v.ups) (dl v.trees) (some (.d (fds ks))) (vb mu) none none none none none none none none none none
noncomputable def u6 (L : PyData) (v : Vc) (ks : Ks Rk) (mu : Bool) (a : Ab) : Vs := vW (some (.d L)) (some (.o 0)) (dl v.names) (dl v.ups) (dl v.trees) (some (.d (fds ks))) (vb mu) (some (.d a.raw)) none none none none none none none none none
noncomputable def u7 (L : PyData) (v : Vc) (ks : Ks Rk) (mu : Bool) (a : Ab) (o : OwnM) : Vs := vW (some (.d L)) (some (.o 0)) (dl v.names) (dl v.ups) (dl v.trees) (some (.d (fds ks))) (vb mu) (some (.d a.raw)) (some (.d (ownV v o))) none none none none none none none none
noncomputable def u8 (L : PyData) (v : Vc) (ks : Ks Rk) (mu : Bool) (a : Ab) (o : OwnM) : Vs := vW (some (.d L)) (some (.o 0)) (dl v.names) (dl v.ups) (dl v.trees) (some (.d (fds ks))) (vb mu) (some (.d a.raw)) (some (.d (ownV v o))) (some (.o 1)) none none none none none none none
noncomputable def u9 (L : PyData) (v : Vc) (ks : Ks Rk) (mu : Bool) (a : Ab) (o : OwnM) (m : Int) : Vs := vW (some (.d L)) (some (.o 0)) (dl v.names) (dl v.ups) (dl v.trees) (some (.d (fds ks))) (vb mu) (some (.d a.raw)) (some (.d (ownV v o))) (some (.o 1)) (some (.d (.int m))) none none none none none none
noncomputable def uE (L : PyData) (v : Vc) (ks : Ks Rk) (mu : Bool) (a : Ab) (o : OwnM) (m : Int) (wr : Bool) (x12 x13 x14 x15 x16 : Option V) : Vs := vW (some (.d L)) (some (.o 0)) (dl v.names) (dl v.ups) (dl v.trees) (some (.d (fds ks))) (vb mu) (some (.d a.raw)) (some (.d (ownV v o))) (some (.o 1)) (some (.d (.int m))) (vb wr) x12 x13 x14 x15 x16
noncomputable def nmv (m : Int) : List PyData := match m.toNat with
  | 0 => []
  | 1 => [s "T"]
  | _ => [s "T", s "S"]
noncomputable def u3i (L : PyData) (N : List PyData) (x : Option V) : Vs := [some (.d L), some (.o 0), dl N, none, none, none, none, none, none, none, none, none, none, none, none, none, none, x, none, none, none, none, none, none]
section
variable {n : Nat} {v : Vc} {L : PyData} {b q : Int} {P : Prop}
theorem la0 (h : runN tab fns n 39 [.d L] [] = .ok (.o 0) [bg b q]) : exL tab (runN tab fns n) (bW.take 1) (u0 L) [] = .ok (.next (u1 L)) [bg b q] :=
  by3 h (fun F => exL tab F _ _ _) (fun G B => by kernel_rfl) (by kernel_rfl)
theorem ur_at (m : Int) (h0 : 0 ≤ m) (h1 : m < 2) : ((place 2 m).bind fun j => [PyData.none, pS (t "Integer")][j]?) = some (ur (m == 1)) :=
  z2 h0 h1 (by rintro rfl; kernel_rfl) (by rintro rfl; kernel_rfl)
theorem la1a {m b' q' : Int} (e : runN tab fns n 40 [.o 0, .d (.int 3)] [bg b q] = .ok (.d (.int m)) [bg b' q']) (h0 : 0 ≤ m) (h1 : m < 3) : exL tab (runN tab fns n) ((bW.drop 1).take 1) (u1 L) [bg b q] = .ok (.next (u2 L (nmv m))) [bg b' q'] := by
  refine z3 h0 h1 ?_ ?_ ?_ <;> (rintro rfl; exact by3 e (fun F => exL tab F _ _ _) (fun G B => by kernel_rfl) (by kernel_rfl))
theorem lu_turn {N : List PyData} {x : PyData} {m b' q' : Int} (e : runN tab fns (n + 1) 40 [.o 0, .d (.int 2)] [bg b q] = .ok (.d (.int m)) [bg b' q']) (h0 : 0 ≤ m) (h1 : m < 2) :
    tF (runN tab fns (n + 1)) (bW.drop 2).hd.rhs (u3i L N (some (.d x))) [bg b q] = .ok (some (ur (m == 1))) [bg b' q'] :=
  tF_is (sub_is (l := [PyData.none, pS (t "Integer")]) (by kernel_rfl) (call_o e rfl rfl) (ur_at m h0 h1))
theorem la1b {F : Orc} {σ σ' : Sg} {ys : List PyData} (h : turns (tF F (bW.drop 2).hd.rhs) (tT (bW.drop 2).hd.rhs) (u3i L v.names none) v.names σ = .ok ys σ') (hy : ys = v.ups) : exL tab F ((bW.drop 2).take 1) (u2 L v.names) σ = .ok (.next (u3 L v)) σ' := by
  subst hy
  exact (seq_next (asg_v (comp_is (by cases v <;> rfl) h) (Nat.le_of_ble_eq_true rfl))).trans rfl
theorem la1 (h : Bg b q) (k : ∀ (v : Vc) (b' q' : Int), Bg b' q' → exL tab (runN tab fns (n + 1)) ((bW.drop 1).take 2) (u1 L) [bg b q] = .ok (.next (u3 L v)) [bg b' q'] → P) : P :=
  r_marble n b q 3 h (by decide) (by decide) [] fun m b0 q0 g0 g1 G e => r_marble n b0 q0 2 G (by decide) (by decide) [] fun m1 b1 q1 i1 j1 G1 e1 => r_marble n b1 q1 2 G1 (by decide) (by decide) [] fun m2 b2 q2 i2 j2 G2 e2 =>
    have s := seq_take 1 ((bW.drop 1).take 2) (la1a (L := L) e g0 g1)
    z3 g0 g1 (fun hm => k .v0 b0 q0 G (by subst hm; exact s.trans (la1b (v := .v0) rfl rfl)))
      (fun hm => k (.v1 (m1 == 1)) b1 q1 G1 (by subst hm; exact s.trans (la1b (v := .v1 (m1 == 1)) (turns1 rfl (lu_turn e1 i1 j1) rfl) rfl)))
      (fun hm => k (.v2 (m1 == 1) (m2 == 1)) b2 q2 G2 (by subst hm; exact s.trans (la1b (v := .v2 (m1 == 1) (m2 == 1)) (turns1 rfl (lu_turn e1 i1 j1) (turns1 rfl (lu_turn e2 i2 j2) rfl)) rfl)))
theorem la3 (v : Vc) {σ : Sg} : exL tab (runN tab fns (n + 1)) ((bW.drop 3).take 1) (u3 L v) σ = .ok (.next (u4 L v)) σ := by
  revert v; exact V_of (by kernel_rfl)
theorem la4 (h : Bg b q) (k : ∀ (ks : Ks Rk) (mu : Bool) (b' q' : Int), Bg b' q' → exL tab (runN tab fns (n + 2)) ((bW.drop 4).take 1) (u4 L v) [bg b q] = .ok (.next (u5 L v ks mu)) [bg b' q'] → P) : P :=
  r_fields n v b q h [] fun ks b0 q0 G e => r_marble (n + 1) b0 q0 2 G (by decide) (by decide) [] fun m1 b1 q1 _ _ G1 e1 => k ks (m1 == 0) b1 q1 G1 (by
    rw [map_rx] at e
    exact by4 e e1 rfl (fun F => exL tab F _ _ _) (fun G B => by kernel_rfl) (fun G B => by kernel_rfl) (by kernel_rfl))
noncomputable def abAt (m : Int) : Ab := match m.toNat with
  | 0 => .non
  | 1 => .sh
  | _ => .shT
theorem ab_at (m : Int) (h0 : 0 ≤ m) (h1 : m < 3) : ((place 3 m).bind fun j => [PyData.none, pS (t "Shape"), pE (t "curly") [pS (t "Shape"), pS (t "T")]][j]?) = some (abAt m).raw :=
  Z_of (f := fun m => (place 3 m).bind fun j => [PyData.none, pS (t "Shape"), pE (t "curly") [pS (t "Shape"), pS (t "T")]][j]?) (g := fun m => some (abAt m).raw) (by kernel_rfl) m h0 h1
noncomputable def Vc.nA : Vc → Int
  | .v0 => 2
  | _ => 3
theorem nA_is (v : Vc) : 0 < v.nA ∧ v.nA < 1000000000 ∧ v.nA ≤ 3 := by cases v <;> exact ⟨of_decide_eq_true rfl, of_decide_eq_true rfl, of_decide_eq_true rfl⟩
theorem la5 {ks : Ks Rk} {mu : Bool} (h : Bg b q) (k : ∀ (a : Ab) (b' q' : Int), Bg b' q' → exL tab (runN tab fns (n + 1)) ((bW.drop 5).take 1) (u5 L v ks mu) [bg b q] = .ok (.next (u6 L v ks mu a)) [bg b' q'] → P) : P :=
  r_marble n b q v.nA h (nA_is v).1 (nA_is v).2.1 [] fun m b1 q1 i1 j1 G1 e1 => k (abAt m) b1 q1 G1
    ((seq_next (asg_v (sub_is (l := [PyData.none, pS (t "Shape"), pE (t "curly") [pS (t "Shape"), pS (t "T")]]) (by kernel_rfl) (call_o e1 (by cases v <;> kernel_rfl) rfl) (ab_at m i1 (Int.lt_of_lt_of_le j1 (nA_is v).2.2))) (Nat.le_of_ble_eq_true rfl))).trans rfl)
theorem la6 {ks : Ks Rk} {mu : Bool} {a : Ab} (h : Bg b q) (k : ∀ (o : OwnM) (b' q' : Int), Bg b' q' → ownOk v o → exL tab (runN tab fns (n + 2)) ((bW.drop 6).take 1) (u6 L v ks mu a) [bg b q] = .ok (.next (u7 L v ks mu a o)) [bg b' q'] → P) : P :=
  r_marble (n + 1) b q 3 h (by decide) (by decide) [] fun m1 b1 q1 _ _ G1 e1 => r_maker n v ((ks.map Rk.sh).map Sh.kx) b1 q1 G1 [] fun ah br w ps b2 q2 G2 ob _ e2 => by
    cases hm : m1 == 0 with
    | true => exact k (some (ah, br, w, ps)) b2 q2 G2 ob ((seq_next (asg_v ((ife_t (b_is (z := m1 == 0) (cmp_c (call_o e1 rfl rfl) rfl rfl) hm)).trans (call_o e2 rfl rfl)) (Nat.le_of_ble_eq_true rfl))).trans rfl)
    | false => exact k none b1 q1 G1 trivial ((seq_next (asg_v ((ife_f (b_is (z := m1 == 0) (cmp_c (call_o e1 rfl rfl) rfl rfl) hm)).trans rfl) (Nat.le_of_ble_eq_true rfl))).trans rfl)
noncomputable abbrev KX (ks : Ks Rk) : Ks Kx := (ks.map Rk.sh).map Sh.kx
theorem la7x (kx : Ks Kx) {mu : Bool} {a : Ab} {o : OwnM} {c : Cell} : exL tab (runN tab fns (n + 2)) ((bW.drop 7).take 1) (vW (some (.d L)) (some (.o 0)) (dl v.names) (dl v.ups) (dl v.trees) (some (.d (.list (kx.fl fv)))) (vb mu) (some (.d a.raw)) (some (.d (ownV v o))) none none none none none none none none) [c]
    = .ok (.next (vW (some (.d L)) (some (.o 0)) (dl v.names) (dl v.ups) (dl v.trees) (some (.d (.list (kx.fl fv)))) (vb mu) (some (.d a.raw)) (some (.d (ownV v o))) (some (.o 1)) none none none none none none none)) [c, .lst false (kx.fl ft ++ mkR (ownMk v o))] := by
  cases o <;> (revert kx; exact X_of fun _ _ _ => by kernel_rfl)
theorem la7 (ks : Ks Rk) {mu : Bool} {a : Ab} {o : OwnM} {c : Cell} : exL tab (runN tab fns (n + 2)) ((bW.drop 7).take 1) (u7 L v ks mu a o) [c] = .ok (.next (u8 L v ks mu a o)) [c, .lst false ((KX ks).fl ft ++ mkR (ownMk v o))] := la7x (KX ks)
theorem la8 {ks : Ks Rk} {mu : Bool} {a : Ab} {o : OwnM} {c1 : Cell} (h : Bg b q) (k : ∀ (m b' q' : Int), 0 ≤ m → m < 15 → exL tab (runN tab fns (n + 1)) ((bW.drop 8).take 1) (u8 L v ks mu a o) [bg b q, c1] = .ok (.next (u9 L v ks mu a o m)) [bg b' q', c1] → P) : P :=
  r_marble n b q 15 h (by decide) (by decide) [c1] fun m b0 q0 g0 g1 G e => k m b0 q0 g0 g1 (by3 e (fun F => exL tab F _ _ _) (fun G B => by kernel_rfl) (by kernel_rfl))
end
section
variable {F : Orc} {vs : Vs} {σ σ' : Sg} {p : Pos}
theorem and_is {a b : X} {x y : Bool} (ha : ev tab F vs a σ = .ok (.d (.bool x)) σ) (hb : ev tab F vs b σ = .ok (.d (.bool y)) σ) : ev tab F vs (.bop .And (.cons a (.cons b .nil)) p) σ = .ok (.d (.bool (x && y))) σ := by
  show (ev tab F vs a σ).bind _ = _
  rw [ha]
  cases x with
  | false => rfl
  | true =>
    show (ev tab F vs b σ).bind _ = _
    rw [hb]; rfl
theorem or_is {a b : X} {x y : Bool} (ha : ev tab F vs a σ = .ok (.d (.bool x)) σ) (hb : ev tab F vs b σ = .ok (.d (.bool y)) σ) : ev tab F vs (.bop .Or (.cons a (.cons b .nil)) p) σ = .ok (.d (.bool (x || y))) σ := by
  show (ev tab F vs a σ).bind _ = _
  rw [ha]
  cases x with
  | true => rfl
  | false =>
    show (ev tab F vs b σ).bind _ = _
    rw [hb]; rfl
theorem or3_is {a b c : X} {x y z : Bool} (ha : ev tab F vs a σ = .ok (.d (.bool x)) σ) (hb : ev tab F vs b σ = .ok (.d (.bool y)) σ) (hc : ev tab F vs c σ = .ok (.d (.bool z)) σ) : ev tab F vs (.bop .Or (.cons a (.cons b (.cons c .nil))) p) σ = .ok (.d (.bool (x || (y || z)))) σ := by
  show (ev tab F vs a σ).bind _ = _
  rw [ha]
  cases x with
  | true => rfl
  | false =>
    show (ev tab F vs b σ).bind _ = _
    rw [hb]
    cases y with
    | true => rfl
    | false =>
      show (ev tab F vs c σ).bind _ = _
      rw [hc]; rfl
theorem a_cons {x : X} {y : PyData} {xs : XL} {ys : List V} {σ'' : Sg} (h : ev tab F vs x σ = .ok (.d y) σ') (h' : evA tab F vs xs σ' = .ok ys σ'') : evA tab F vs (.cons x xs) σ = .ok (.d y :: ys) σ'' := by
  show (ev tab F vs x σ).bind _ = _
  rw [h]
  show (evA tab F vs xs σ').bind _ = _
  rw [h']; rfl
noncomputable def sel (b0 b1 b2 : SL) : Ft → SL
  | .dup => b0
  | .fn => b1
  | .odd => b2
  | .non => .nil
noncomputable def fAt (d f o : Bool) : Ft := bif d then .dup else bif f then .fn else bif o then .odd else .non
theorem chain {c0 c1 c2 : X} {b0 b1 b2 : SL} {p0 p1 p2 : Pos} {vs' : Vs} {d f z : Bool} (e0 : ev tab F vs c0 σ = .ok (.d (.bool d)) σ) (e1 : ev tab F vs c1 σ = .ok (.d (.bool f)) σ) (e2 : ev tab F vs c2 σ = .ok (.d (.bool z)) σ) (h : exL tab F (sel b0 b1 b2 (fAt d f z)) vs σ = .ok (.next vs') σ') :
    exS tab F (.iff c0 b0 (.cons (.iff c1 b1 (.cons (.iff c2 b2 .nil p2) .nil) p1) .nil) p0) vs σ = .ok (.next vs') σ' := by
  cases d with
  | true => exact (if_t e0).trans h
  | false =>
    refine (if_f e0).trans ((seq_next ?_).trans rfl)
    cases f with
    | true => exact (if_t e1).trans h
    | false =>
      refine (if_f e1).trans ((seq_next ?_).trans rfl)
      cases z with
      | true => exact (if_t e2).trans h
      | false => exact (if_f e2).trans h
end
noncomputable def good (k : Nat) (x : PyData) : Bool := Nat.ble x.depth k && x.eqv x
theorem good_dok {x : PyData} (h : good 900 x = true) : dok x = true := dok_of (Nat.le_of_ble_eq_true (Bool.and_eq_true_iff.mp h).1)
theorem eq_self {x : PyData} (h : good 900 x = true) : cmpop .Eq x x = some true := by
  unfold cmpop
  rw [good_dok h, (Bool.and_eq_true_iff.mp h).2]; rfl
theorem ne_self {x : PyData} (h : good 900 x = true) : cmpop .NotEq x x = some false := by
  unfold cmpop
  rw [good_dok h, (Bool.and_eq_true_iff.mp h).2]; rfl
noncomputable def nz : Ks Rk → Bool
  | .n0 => false
  | _ => true
theorem nz_is (ks : Ks Rk) : cmpop .NotEq (fds ks) (.list []) = some (nz ks) := by revert ks; exact R_of (by kernel_rfl)
noncomputable def badM (v : Vc) : OwnM → Bool
  | none => false
  | some (ah, br, _, _) => (kindK v ah br).isNone
noncomputable def wrg (f : Ft) (bad : Bool) : Bool := match f with
  | .non => bad
  | _ => true
theorem wrg_is (d f o b : Bool) : wrg (fAt d f o) b = (d || ((f || o) || b)) := by cases d <;> cases f <;> cases o <;> rfl
noncomputable def R0 (v : Vc) (ks : Ks Rk) (o : OwnM) : List PyData := (KX ks).fl ft ++ mkR (ownMk v o)
section
variable {n : Nat} {v : Vc} {L : PyData} {ks : Ks Rk} {mu : Bool} {a : Ab} {o : OwnM} {m : Int} {c : Cell} {σ : Sg}
theorem c_nz {F : Orc} {pa pb pc pe : Pos} {d : Bool} {x : X} (h : ev tab F (u9 L v ks mu a o m) x σ = .ok (.d (.bool d)) σ) : ev tab F (u9 L v ks mu a o m) (.bop .And (.cons x (.cons (.cmp .NotEq (.var 5 pa) (.lst .nil pb) pc) .nil)) pe) σ = .ok (.d (.bool (d && nz ks))) σ :=
  and_is h (cmp_c rfl rfl (nz_is ks))
theorem V3BB_of {β : Type} {f g : Vc → Bool → Bool → β} (h : ∀ x y, ([Vc.v0, .v1 x, .v2 x y].map fun v => lB.map fun a => lB.map fun b => f v a b) = ([Vc.v0, .v1 x, .v2 x y].map fun v => lB.map fun a => lB.map fun b => g v a b)) : ∀ v a b, f v a b = g v a b := fun v a => L_of cB (L_of cB (V3_of h v) a)
theorem Y_of {α β : Type} {f g : Ks α → β} (d : α) (h : ∀ t u w, aK [t] [u] [w] f = aK [t] [u] [w] g) : ∀ ks, f ks = g ks := aK_of (L := fun a => [a]) (fun a => ⟨a, at_mem 0 rfl⟩) d h
theorem ap_is (ks : Ks Rk) (f : Ft) : exL tab (runN tab fns (n + 2)) (sel (bW.drop 9).hd.thn (bW.drop 9).hd.els.hd.thn (bW.drop 9).hd.els.hd.els.hd.thn f) (u9 L v ks mu a o m) [c, .lst false (R0 v ks o)] = .ok (.next (u9 L v ks mu a o m)) [c, .lst false (R0 v ks o ++ f.rows)] := by
  cases o <;> (revert f; refine F_of ?_; revert ks; exact Y_of .non fun _ _ _ => by kernel_rfl)
theorem la9 : exL tab (runN tab fns (n + 2)) ((bW.drop 9).take 1) (u9 L v ks mu a o m) [c, .lst false (R0 v ks o)] = .ok (.next (u9 L v ks mu a o m)) [c, .lst false (R0 v ks o ++ (fAt ((m == 0) && nz ks) (m == 1) (m == 2)).rows)] :=
  (seq_next (chain (c_nz (cmp_c rfl rfl rfl)) (cmp_c rfl rfl rfl) (cmp_c rfl rfl rfl) (ap_is ks _))).trans rfl
theorem mk_c {F : Orc} (v : Vc) (o : OwnM) : ev tab F (u9 L v ks mu a o m) (.bop .And (.cons (.cmp .IsNot (.var 8 ⟨365, 66, 365, 71⟩) (.cst .none 0 ⟨365, 79, 365, 83⟩) ⟨365, 66, 365, 83⟩) (.cons (.cmp .Is (.sub (.var 8 ⟨365, 88, 365, 93⟩) (.cst (.int 2) 0 ⟨365, 94, 365, 95⟩) ⟨365, 88, 365, 96⟩) (.cst .none 0 ⟨365, 100, 365, 104⟩) ⟨365, 88, 365, 104⟩) .nil)) ⟨365, 66, 365, 104⟩) σ = .ok (.d (.bool (badM v o))) σ := by
  rcases o with _ | ⟨ah, br, w, ps⟩
  · kernel_rfl
  · revert v ah br; exact V3BB_of fun _ _ => by kernel_rfl
theorem in_12 : cmpop .In (.int m) (.tuple [.int 1, .int 2]) = some ((m == 1) || (m == 2)) := by
  rw [BEq.comm (a := m), BEq.comm (a := m) (b := 2)]
  exact congrArg (fun z => some ((1 == m) || z)) (Bool.or_false _)
theorem la10 {r : Sg} : exL tab (runN tab fns n) ((bW.drop 10).take 1) (u9 L v ks mu a o m) r = .ok (.next (uE L v ks mu a o m (wrg (fAt ((m == 0) && nz ks) (m == 1) (m == 2)) (badM v o)) none none none none none)) r := by
  rw [wrg_is]
  exact (seq_next (asg_v (or3_is (c_nz (cmp_c rfl rfl rfl)) (cmp_c rfl rfl in_12) (mk_c v o)) (Nat.le_of_ble_eq_true rfl))).trans rfl
theorem la11 (v : Vc) (a : Ab) {w : Bool} : exL tab (runN tab fns (n + 2)) ((bW.drop 11).take 2) (uE L v ks mu a o m w none none none none none) σ = .ok (.next (uE L v ks mu a o m w (some (.d (hdT v a))) none none none none)) σ := by
  revert v a; exact VA_of (by kernel_rfl)
end
theorem noth_eq : cmpop .Eq nothT nothT = some true := by kernel_rfl
theorem r_expr_t (n : Nat) (h : Str) (L : List PyData) (hL : L.length ≤ 100000) : runN tab fns (n + 1) 0 [.d (.str h), .d (.tuple L)] [] = .ok (.d (pE h L)) [] := (run_at (f := f_expr) rfl _ _ rfl).trans (congrArg fin (ex_do h L hL _ rfl))
noncomputable def tlv (x : PyData) : Option PyData → List PyData
  | none => [x]
  | some y => [x, y]
noncomputable def outT (a b x : PyData) (y : Option PyData) : PyData := pE (t "block") ([a, b] ++ tlv x y ++ [nothT])
section
variable {n : Nat} {v : Vc} {L : PyData} {ks : Ks Rk} {mu : Bool} {a : Ab} {o : OwnM} {m : Int} {c : Cell} {σ : Sg} {hd : PyData} {x14 : Option V}
theorem la13 {w : Bool} {R : List PyData} (hR : Nat.ble R.length 60 = true) {x : PyData} {τ : Sg} (h : runN tab fns (n + 1) 50 [.d (pE (t "struct") [boolT mu, hd, pE (t "block") R])] [] = .ok (.d x) τ) : exL tab (runN tab fns (n + 1)) ((bW.drop 13).take 1) (uE L v ks mu a o m w (some (.d hd)) none none none none) [c, .lst false R] = .ok (.next (uE L v ks mu a o m w (some (.d hd)) (some (.d x)) none none none)) [c, .lst true R] :=
  (seq_next (asg_v (call_d h (a_cons (call_d (r_expr_t n _ [_, _, _] (Nat.le_of_ble_eq_true rfl)) (a_cons rfl (a_cons (tup_is (d_cons rfl (d_cons rfl (d_cons (call_d (r_expr n _ R (Nat.le_trans (Nat.le_of_ble_eq_true hR) (by decide))) (by kernel_rfl) rfl rfl) rfl)))) rfl)) rfl rfl) rfl) rfl rfl) (Nat.le_of_ble_eq_true rfl))).trans rfl
theorem la14 {F : Orc} : exL tab F (bW.drop 14) (uE L v ks mu a o m true (some (.d hd)) (some (.d .none)) none none none) σ = .ok (.ret (.d (.bool true))) σ := by
  kernel_rfl
noncomputable def uT (L : PyData) (v : Vc) (ks : Ks Rk) (mu : Bool) (a : Ab) (o : OwnM) (m : Int) (hd p q x : PyData) (y : Option PyData) (x14 x15 x16 : Option V) : Vs := uE L v ks mu a o m false (some (.d hd)) (some (.d (outT p q x y))) x14 x15 x16
variable {p q x : PyData} {y : Option PyData}
theorem la14' {F : Orc} : exL tab F ((bW.drop 14).take 1) (uT L v ks mu a o m hd p q x y none none none) σ = .ok (.next (uT L v ks mu a o m hd p q x y none none none)) σ := by
  kernel_rfl
theorem la15 {τ : Sg} (hg : good 900 (.list [p, q]) = true) (h : runN tab fns n 48 [.d (.bool mu), .d a.raw, .d (.list v.names), .d (.list v.ups), .d (fds ks)] [] = .ok (.d (.list [p, q])) τ) :
    exL tab (runN tab fns n) ((bW.drop 15).take 1) (uT L v ks mu a o m hd p q x y none none none) σ = .ok (.next (uT L v ks mu a o m hd p q x y none none none)) σ :=
  (seq_next ((if_f (or_is (x := false) (y := false) (by kernel_rfl) (cmp_c (by cases y <;> kernel_rfl) (call_d h rfl rfl rfl) (ne_self hg)))).trans rfl)).trans rfl
noncomputable def seenR (n : Nat) : Option PyData → Option PyData → Prop
  | none, none => True
  | some y, some z => ∃ τ, runN tab fns n 46 [.d y] [] = .ok (.d z) τ
  | _, _ => False
theorem la16 {sx : PyData} {τ : Sg} {sy : Option PyData} (h : runN tab fns n 46 [.d x] [] = .ok (.d sx) τ) (h' : seenR n y sy) :
    exL tab (runN tab fns n) ((bW.drop 16).take 1) (uT L v ks mu a o m hd p q x y none none none) σ = .ok (.next (uT L v ks mu a o m hd p q x y (some (.d (.list (tlv sx sy)))) none none)) σ :=
  (seq_next (asg_v (comp_is (ds := tlv x y) (ys := tlv sx sy) (by cases y <;> kernel_rfl) (match y, sy, h' with
    | none, none, _ => turns1 rfl (tF_is (call_d h rfl rfl rfl)) rfl
    | some _, some _, ⟨_, h'⟩ => turns1 rfl (tF_is (call_d h rfl rfl rfl)) (turns1 rfl (tF_is (call_d h' rfl rfl rfl)) rfl))) (Nat.le_of_ble_eq_true rfl))).trans rfl
theorem la17 {S : PyData} {τ : Sg} (hS : good 900 S = true) (h : runN tab fns n 47 [.d (.list v.names), .d (.list v.trees), .d (fds ks)] [] = .ok (.d S) τ) :
    exL tab (runN tab fns n) (bW.drop 17) (uT L v ks mu a none m hd p q x y (some (.d S)) none none) σ = .ok (.ret (.d (.bool true))) σ :=
  seq_r ((if_t (by kernel_rfl)).trans (seq_r (ret_d (and_is (x := true) (y := true) (cmp_c (x := nothT) (y := nothT) (by cases y <;> kernel_rfl) rfl noth_eq) (cmp_c rfl (call_d h rfl rfl rfl) (eq_self hS))))))
noncomputable def x15 (ps : Ks Bool) : Option V := some (.d (.list (pws ps)))
theorem la18 (ah br : Bool) (w : Bool) (ps : Ks Bool) : exL tab (runN tab fns (n + 1)) ((bW.drop 17).take 4) (uT L v ks mu a (some (ah, br, w, ps)) m hd p q x y x14 none none) σ = .ok (.next (uT L v ks mu a (some (ah, br, w, ps)) m hd p q x y x14 (x15 ps) (some (.d (wrapD w (madeT (orN (kindK v ah br)) (pws ps))))))) σ := by
  revert w ps; exact BP_of (by kernel_rfl)
theorem la21 (v : Vc) {ah br w : Bool} {ps : Ks Bool} {E : PyData} (hg : good 900 (.list [seenT (calT v ah) v.syms [.none] E]) = true) : exL tab (runN tab fns (n + 1)) (bW.drop 21) (uT L v ks mu a (some (ah, br, w, ps)) m hd p q x y (some (.d (.list [seenT (calT v ah) v.syms [.none] E]))) (x15 ps) (some (.d E))) σ = .ok (.ret (.d (.bool true))) σ :=
  seq_r (ret_d (cmp_c rfl (by clear hg; revert v; exact V3_of fun _ _ => by kernel_rfl) (eq_self hg)))
end
noncomputable def goods (k : Nat) (l : List PyData) : Bool := Nat.ble (PyData.depthAll l) k && PyData.eqvAll l l
theorem goods_cons {k : Nat} {x : PyData} {l : List PyData} (h : good k x = true) (hl : goods k l = true) : goods k (x :: l) = true := by
  have h := Bool.and_eq_true_iff.mp h
  have hl := Bool.and_eq_true_iff.mp hl
  refine Bool.and_eq_true_iff.mpr ⟨Nat.ble_eq_true_of_le (Nat.max_le.mpr ⟨Nat.le_of_ble_eq_true h.1, Nat.le_of_ble_eq_true hl.1⟩), ?_⟩
  show (x.eqv x && PyData.eqvAll l l) = true
  rw [h.2, hl.2]; rfl
theorem VAB_of {β : Type} {f g : Vc → Ab → Bool → β} (h : (lV.map fun v => lA.map fun a => lB.map fun b => f v a b) = (lV.map fun v => lA.map fun a => lB.map fun b => g v a b)) : ∀ v a b, f v a b = g v a b := fun v a => L_of cB (L_of cA (L_of cV h v) a)
theorem good_beg (v : Vc) (a : Ab) (b : Bool) : good 899 (begD v a b) = true := by revert v a b; exact VAB_of (by kernel_rfl)
theorem V3R_of {β : Type} {f g : Vc → Ks Rk → β} (h : ∀ x y, ([Vc.v0, .v1 x, .v2 x y].map fun v => aK lR lR lR (f v)) = ([Vc.v0, .v1 x, .v2 x y].map fun v => aK lR lR lR (g v))) : ∀ v ks, f v ks = g v ks := fun v => R_of (V3_of h v)
theorem good_end (v : Vc) (ks : Ks Rk) : good 899 (endD v.tb (ks.map Rk.sh)) = true := by revert v ks; exact V3R_of fun _ _ => by kernel_rfl
theorem VR_of {β : Type} {f g : Vc → Ks Rk → β} (h : (lV.map fun v => aK lR lR lR (f v)) = (lV.map fun v => aK lR lR lR (g v))) : ∀ v ks, f v ks = g v ks := fun v => R_of (L_of cV h v)
theorem good_due (v : Vc) (ks : Ks Rk) : good 900 (.list (dueD v (ks.map Rk.sh))) = true := by revert v ks; exact VR_of (by kernel_rfl)
theorem V3BBBP_of {β : Type} {f g : Vc → Bool → Bool → Bool → Ks Bool → β} (h : ∀ x y, ([Vc.v0, .v1 x, .v2 x y].map fun v => lB.map fun a => lB.map fun b => lB.map fun c => aK lB lB lB (f v a b c)) = ([Vc.v0, .v1 x, .v2 x y].map fun v => lB.map fun a => lB.map fun b => lB.map fun c => aK lB lB lB (g v a b c))) : ∀ v a b c ps, f v a b c ps = g v a b c ps := fun v a b c => P_of (L_of cB (L_of cB (L_of cB (V3_of h v) a) b) c)
theorem good_own (v : Vc) (ah br w : Bool) (ps : Ks Bool) : good 900 (.list [seenT (calT v ah) v.syms [.none] (wrapD w (madeT (orN (kindK v ah br)) (pws ps)))]) = true := by revert v ah br w ps; exact V3BBBP_of fun _ _ => by kernel_rfl
theorem good_be (v : Vc) (a : Ab) (b : Bool) (ks : Ks Rk) : good 900 (.list [begD v a b, endD v.tb (ks.map Rk.sh)]) = true := goods_cons (k := 899) (good_beg v a b) (goods_cons (good_end v ks) rfl)
theorem f_dup {d f z : Bool} (h : fAt d f z = .dup) : d = true := by
  cases d with
  | true => rfl
  | false => cases f <;> cases z <;> cases h
theorem nz_pl : ∀ {ks : Ks Rk}, nz ks = true → (KX ks).fl pl ≠ []
  | .n1 _, _ => List.cons_ne_nil _ _
  | .n2 _ _, _ => List.cons_ne_nil _ _
  | .n3 _ _ _, _ => List.cons_ne_nil _ _
section
variable {v : Vc} {a : Ab} {mu : Bool} {ks : Ks Rk} {o : OwnM} {L : PyData} {m : Int} {σ : Sg} {c : Cell} {hd : PyData}
theorem told_wrong (ho : ownOk v o) (f : Ft) (hf : f = .dup → nz ks = true) (hw : wrg f (badM v o) = true) : runN tab fns 19 50 [.d (structT v a (KX ks) (ownMk v o) mu f)] [] = .ok (.d .none) [] :=
  told_ex 17 _ (match o, f, hf, hw, ho with
    | o, .odd, _, _, _ => st_odd 9 v a mu (KX ks) (ownMk v o)
    | o, .dup, hf, _, _ => st_dup 9 v a mu (KX ks) (ownMk v o) (nz_pl (hf rfl))
    | none, .fn, _, _, _ => st_fn 9 v a mu (ks.map Rk.sh)
    | some (ah, br, w, ps), .fn, _, _, ho => st_fn2 9 v a mu ah br w ps ho (ks.map Rk.sh)
    | none, .non, _, hw, _ => absurd hw Bool.false_ne_true
    | some (ah, br, w, ps), .non, _, hw, ho => by
      have h := st_mine 9 v a mu ah br w ps ho (ks.map Rk.sh)
      have hk : (kindK v ah br).isNone = true := hw
      cases hc : kindK v ah br with
      | some k => rw [hc] at hk; cases hk
      | none => rw [hc] at h; exact h)
theorem own_told {ah br w : Bool} {ps : Ks Bool} (ho : okBr v br = true) (hk : (kindK v ah br).isNone = false) : ∃ τ, runN tab fns 19 50 [.d (structT v a (KX ks) (ownMk v (some (ah, br, w, ps))) mu .non)] [] = .ok (.d (outT (begD v a mu) (endD v.tb (ks.map Rk.sh)) (ownT v ah w ps (orN (kindK v ah br))) none)) τ := by
  have h := st_mine 9 v a mu ah br w ps ho (ks.map Rk.sh)
  cases hc : kindK v ah br with
  | none => rw [hc] at hk; cases hk
  | some k =>
    rw [hc] at h
    exact h.elim fun τ h => ⟨τ, told_ok 17 _ _ τ h⟩
theorem own_seen (v : Vc) (ah w : Bool) (ps : Ks Bool) (k : PyData) : ∃ τ, runN tab fns 19 46 [.d (ownT v ah w ps k)] [] = .ok (.d (seenT (calT v ah) v.syms [.none] (wrapD w (madeT k (pws ps))))) τ := by
  have h := of_val (seen3 13 v w ps (calT v ah) k)
  rw [← headC_T] at h
  exact h
theorem len_ok (v : Vc) (ks : Ks Rk) (o : OwnM) (f : Ft) : Nat.ble (R0 v ks o ++ f.rows).length 60 = true := by
  cases o <;> (revert f; refine F_of ?_; revert ks; exact Y_of .non fun _ _ _ => by kernel_rfl)
theorem if_tl (c : Bool) (x y : PyData) : (x :: if c = true then [] else [y]) = tlv x (bif c then none else some y) := by cases c <;> rfl
theorem if_tl' (c : Bool) (x y : PyData) : (x :: if c = true then [y] else []) = tlv x (bif c then some y else none) := by cases c <;> rfl
noncomputable def SD (n : Nat) (v : Vc) (ks : Ks Sh) : Prop := ∃ x y sx sy τ, defM v ks = tlv x y ∧ dueD v ks = tlv sx sy ∧ runN tab fns (n + 4) 46 [.d x] [] = .ok (.d sx) τ ∧ seenR (n + 4) y sy
theorem seen_n (n : Nat) {v : Vc} {ks : Ks Sh} (hD : defM v ks = tellT v (ks.map Sh.kx) :: (if covers v (told ks) then [findT v (ks.map Sh.kx)] else [])) (hU : dueD v ks = seenT v.whole v.trees (nons (ks.map Sh.kx)) (madeT v.whole (oth (ks.map Sh.kx))) :: (if covers v (told ks) then [seenT P0 v.trees (kds (ks.map Sh.kx)) (madeT v.whole (wrt (ks.map Sh.kx)))] else [])) : SD n v ks :=
  (of_val (seen2 n v (ks.map Sh.kx) v.whole v.whole)).elim fun τ e => ⟨_, _, _, _, τ, hD.trans (if_tl' _ _ _), hU.trans (if_tl' _ _ _), e, match covers v (told ks) with
    | true => of_val (seen1 n v (ks.map Sh.kx) P0 v.whole)
    | false => trivial⟩
theorem seen_def (n : Nat) (v : Vc) (ks : Ks Sh) : SD n v ks := match v with
  | .v0 => (of_val (seen1 n .v0 (ks.map Sh.kx) P0 P0)).elim fun τ e => ⟨_, _, _, _, τ, if_tl _ _ _, if_tl _ _ _, e, match (ks.map Sh.kx).allN with
    | false => of_val (seen2 n .v0 (ks.map Sh.kx) P0 P0)
    | true => trivial⟩
  | .v1 _ => seen_n n rfl rfl
  | .v2 _ _ => seen_n n rfl rfl
theorem def_told {x : PyData} {y : Option PyData} (e1 : defM v (ks.map Rk.sh) = tlv x y) : ∃ τ, runN tab fns 19 50 [.d (structT v a (KX ks) (ownMk v none) mu .non)] [] = .ok (.d (outT (begD v a mu) (endD v.tb (ks.map Rk.sh)) x y)) τ := by
  obtain ⟨τ, hs⟩ := st_default 9 v a mu (ks.map Rk.sh)
  rw [e1] at hs
  exact ⟨τ, told_ok 17 _ _ τ hs⟩
theorem law_go {p q x : PyData} {y : Option PyData} {τ τ' : Sg} (hT : runN tab fns 19 50 [.d (structT v a (KX ks) (ownMk v o) mu .non)] [] = .ok (.d (outT p q x y)) τ) (hg : good 900 (.list [p, q]) = true) (hr : runN tab fns 19 48 [.d (.bool mu), .d a.raw, .d (.list v.names), .d (.list v.ups), .d (fds ks)] [] = .ok (.d (.list [p, q])) τ')
    {sx : PyData} {sy : Option PyData} {τ3 : Sg} (h : runN tab fns 19 46 [.d x] [] = .ok (.d sx) τ3) (h' : seenR 19 y sy) :
    exL tab (runN tab fns 19) (bW.drop 13) (uE L v ks mu a o m false (some (.d (hdT v a))) none none none none) [c, .lst false (R0 v ks o ++ Ft.non.rows)] = exL tab (runN tab fns 19) (bW.drop 17) (uT L v ks mu a o m (hdT v a) p q x y (some (.d (.list (tlv sx sy)))) none none) [c, .lst true (R0 v ks o ++ Ft.non.rows)] :=
  (seq_take 1 (bW.drop 13) (la13 (len_ok v ks o .non) hT)).trans ((seq_take 1 (bW.drop 14) la14').trans ((seq_take 1 (bW.drop 15) (la15 hg hr)).trans (seq_take 1 (bW.drop 16) (la16 h h'))))
theorem law_end (ob : ownOk v o) (f : Ft) (hf : f = .dup → nz ks = true) : ∃ σ, exL tab (runN tab fns 19) (bW.drop 13) (uE L v ks mu a o m (wrg f (badM v o)) (some (.d (hdT v a))) none none none none) [c, .lst false (R0 v ks o ++ f.rows)] = .ok (.ret (.d (.bool true))) σ := by
  cases hw : wrg f (badM v o) with
  | true => exact ⟨_, (seq_take 1 (bW.drop 13) (la13 (len_ok v ks o f) (told_wrong ob f hf hw))).trans la14⟩
  | false =>
    have hfn : f = .non := by cases f <;> first | rfl | cases hw
    subst hfn
    have hr := r_rows_due 14 v a mu (ks.map Rk.sh)
    have hg := good_be v a mu ks
    match o, hw, ob with
    | none, _, _ =>
      obtain ⟨x, y, sx, sy, τ3, e1, e2, e3, e4⟩ := seen_def 15 v (ks.map Rk.sh)
      obtain ⟨τ2, hd⟩ := r_default_due 17 v (ks.map Rk.sh) (shwn ks) (str_1 ks) (str_tells v ks)
      have hS := good_due v ks
      obtain ⟨τ, hT⟩ := def_told (a := a) (mu := mu) e1
      rw [e2] at hd hS
      exact ⟨_, (law_go hT hg hr e3 e4).trans (la17 hS hd)⟩
    | some (ah, br, w, ps), hw, ob =>
      obtain ⟨τ, hT⟩ := own_told ob hw
      obtain ⟨τ3, e3⟩ := own_seen v ah w ps (orN (kindK v ah br))
      exact ⟨_, (law_go hT hg hr e3 (sy := none) trivial).trans ((seq_take 4 (bW.drop 17) (la18 ah br w ps)).trans (la21 v (good_own v ah br w ps)))⟩
theorem law_true (script : List Int) (hl : script.length ≤ 63) : ∃ σ, runN tab fns 20 51 [.d (.list (script.map .int))] [] = .ok (.d (.bool true)) σ :=
  r_bag 18 script hl fun b q G e0 => la1 (n := 18) (L := .list (script.map .int)) G fun v b1 q1 G1 s1 => la4 (n := 17) G1 fun ks mu b2 q2 G2 s4 => la5 (n := 18) G2 fun a b3 q3 G3 s5 => la6 (n := 17) G3 fun o b4 q4 G4 ob s6 => la8 (n := 18) G4 fun m b5 q5 m0 m1 s8 =>
    (law_end ob (fAt ((m == 0) && nz ks) (m == 1) (m == 2)) (fun h => (Bool.and_eq_true_iff.mp (f_dup h)).2)).elim fun σ h => ⟨σ, (run_at (f := f_law) rfl _ _ rfl).trans (congrArg fin
      ((seq_take 1 bW (la0 e0)).trans ((seq_take 2 (bW.drop 1) s1).trans ((seq_take 1 (bW.drop 3) (la3 v)).trans ((seq_take 1 (bW.drop 4) s4).trans ((seq_take 1 (bW.drop 5) s5).trans ((seq_take 1 (bW.drop 6) s6).trans ((seq_take 1 (bW.drop 7) (la7 ks)).trans ((seq_take 1 (bW.drop 8) s8).trans ((seq_take 1 (bW.drop 9) la9).trans ((seq_take 1 (bW.drop 10) la10).trans ((seq_take 2 (bW.drop 11) (la11 v a)).trans h))))))))))))⟩
end
theorem final {prog : Program} {w : World} {A : Around} {s : Shared} {K : Frag} {lf : Addr} {a : Addr} {xs : List Int} {mg mb : Str → Option Value} {Q : Value → Shared → Prop} {E : Value → Shared → Prop}
    (X : K.In s.heap) (F : KF K) (hl : s.heap.NoLimit) (hs : ∃ o, s.heap.get? sysModules = some o)
    (hd : ∃ mc, s.heap.Ns cStatics mc ∧ mc "sys.int_max_str_digits" = none) (hg : s.heap.Ns mainGlobals mg) (hb : s.heap.Ns builtinsNs mb) (hbb : ∀ x : Str, x ≠ "__name__" → mb x = bootBuiltins x) (hlf : mg ("LowerFault" : Str) = some (.ref lf))
    (hr : RaiseW lf prog w s.heap) (hm : MatchW lf prog w s.heap)
    (hh : A.handled = none) (hgu : A.guards = some []) (hdp : A.depth ≤ 800) (hun : A.units ≤ 100) (hfr : A.frames = some [])
    (hv : Rd s.heap (.ref a) (.list (xs.map .int))) (hx : xs.length ≤ 63)
    (h : ∀ h' tk, (∀ b o, s.heap.get? b = some o → h'.get? b = some o) → Q (.bool true) { s with heap := h', toks := tk }) :
    wpAny (model prog w) A (call (.ref 456) [.ref a]) Q E s := by
  obtain ⟨σ, hrun⟩ := law_true xs hx
  let c : Cx := ⟨prog, w, tab, K, caF, faF, s.heap, A, [], [], fns⟩
  have wd : Wd lf c := wd_of (c := c) ⟨rfl, rfl⟩ rfl rfl X F hl hs hd hg hb hbb hlf hr hm
  have C : CokO 20 lf c := ⟨hh, hgu, by show A.depth + 4 * 20 + 2 ≤ 900; omega, by show A.units + 40 * 20 + 370 ≤ 5000; omega, hfr, wd⟩
  have hW : ∀ b, b ∉ Wl c [] [] [] := fun b hb => by
    rcases mem_Wl.mp hb with q | q | ⟨k, p, cl, e, _⟩
    · cases q
    · cases q
    · simp at e
  have S : St c [] [] [] s.heap := ⟨rfl, fun k p cl e => (by simp at e), fun j k p q cl dl _ e => (by simp at e), fun k p cl e => (by simp at e), fun a ha => (by cases ha), fun a ha => (by rcases ha with q | q <;> cases q), fun _ _ e => e, (by first | trivial | exact .nil | constructor), fun L hL => (by cases hL), fun a ha => (by rcases ha with q | q <;> cases q)⟩
  have Rs : VRs (Fz (Wl c [] [] []) s.heap) [] [.ref a] [.d (.list (xs.map .int))] := .cons (Rd.keeps hv fun b o e => fz_iff.mpr ⟨e, hW b⟩) .nil
  refine wpAny_call (orc_run 20 c C [] [] s 51 [.d (.list (xs.map .int))] [.ref a] _ S Rs (by rw [hrun]; simp) (fun V σ' e v αs' h' tk S' N r => ?_) (fun e => by rw [hrun] at e; cases e))
  rw [hrun] at e
  cases e
  obtain ⟨⟨as, q⟩, _⟩ := r
  cases q
  exact h h' tk fun b o z => (N.fz b o (hW b) z).1
set_option tactic.hygienic true in
theorem ns_some {K : Frag} {h : Heap} {N : Addr} {mg : Str → Option Value} {n : Str} {v : Value} (X : K.In h) (G : h.Ns N mg) (e : nsIn K N n = some (some v)) : mg n = some v := by
  obtain ⟨o, es, ep, ho, hd, _, hf⟩ := G
  unfold nsIn at e
  split at e
  · rename_i c d es' n' sl q
    have := X _ _ q
    rw [ho] at this
    cases this
    cases hd
    split at e
    · rename_i en he
      cases e
      rw [← hf]
      unfold nsFind findBy
      rw [← Array.find?_toList, he]
      rfl
    · split at e <;> cases e
  · cases e
noncomputable def fdOf (K : Frag) (a : Addr) : FuncData := (fdAt K a).getD default
structure ExcK (K : Frag) : Prop where
  c : K.lookup 52 = some (excClassObj (Str.ofString "LowerFault") (Str.ofString "LowerFault") 52 51 [.ref 39] (.ref 39 :: bmE) true [] [] false none none (some (.ref 43)) none (some (.str (Str.ofString "LowerFault") 227)) (some (.str (Str.ofString "LowerFault") 235)) (some (.bool true)) "Exception.__new__")
  n1 : nsOkIn K 51 = true
  n2 : nsOkIn K 38 = true
  r : ∃ c0 d0 cd sl, K.lookup 39 = some { cls := c0, dict := d0, data := .cls cd, slots := sl } ∧ cd.ns = 38
  gE : nsIn K mainGlobals "Exception" = some none
  non : (["__init__", "__setattr__", "message", "spot"] : List Str).all (fun n => nsIn K 51 n == some none) = true
  nor : (["__setattr__", "message", "spot"] : List Str).all (fun n => nsIn K 38 n == some none) = true
  rI : nsIn K 38 "__init__" = some (some (.ref 36))
  f_ : ∃ d sl, K.lookup 36 = some { cls := .type "function", dict := d, data := .func (fdOf K 36), slots := sl }
  body : (fdOf K 36).body = .stmts iniB
  clos : (fdOf K 36).closure = []
  glob : (fdOf K 36).globals = mainGlobals
  blt : (fdOf K 36).builtins = builtinsNs
  fk : (fdOf K 36).scope.kind = .function
  co : (fdOf K 36).scope.isCoroutine = false
  gen : (fdOf K 36).scope.isGenerator = false
  names : (fdOf K 36).scope.names = [(Str.ofString "self", NameKind.local), (Str.ofString "message", NameKind.local), (Str.ofString "spot", NameKind.local), (Str.ofString "Exception", NameKind.globalImplicit)]
  rec_ : codeAt K (fdOf K 36).code = some (fdOf K 36).qualname
  dflt : (fdOf K 36).defaults = .ref 29
  dat : ∃ o n, K.lookup 29 = some o ∧ o.data = .seq #[.none] n
  bind : ∀ a b : Value, ∃ k : Option (Array Value) → Sem (List (Str × Value)), bindArgs (fdOf K 36) ⟨[a, b], []⟩ = (seqItems? (fdOf K 36).defaults >>= k) ∧ k (some #[.none]) = pure [(Str.ofString "self", a), (Str.ofString "message", b), (Str.ofString "spot", Value.none)]
  clsE : findCls K (.type "Exception") (.type "type") "__init__" = some (.val (.builtin "Exception.__init__"))
set_option tactic.hygienic true in
theorem codeRec_of {K : Frag} {h : Heap} {fd : FuncData} (X : K.In h) (h9 : codeAt K fd.code = some fd.qualname) : h.CodeRec fd.code fd.qualname := by
  unfold codeAt at h9
  split at h9
  · rename_i cc hcc
    split at h9
    · rename_i q1 q2 vs q3 hq
      split at h9
      · rename_i q t hv
        cases h9
        exact ⟨cc, _, vs, t, hcc, X _ _ hq, rfl, hv⟩
      · cases h9
    · cases h9
  · cases h9
theorem exc0_of {K : Frag} {b₀ : Heap} {mg mb : Str → Option Value} (X : K.In b₀) (F : ExcK K) (lim : b₀.NoLimit) (hg : b₀.Ns mainGlobals mg) (hb : b₀.Ns builtinsNs mb) (hbb : ∀ x : Str, x ≠ "__name__" → mb x = bootBuiltins x) :
    Exc0 K b₀ 52 51 39 36 29 (Str.ofString "LowerFault") (Str.ofString "LowerFault") [.ref 39] [] [] false none none (some (.ref 43)) none (some (.str (Str.ofString "LowerFault") 227)) (some (.str (Str.ofString "LowerFault") 235)) (some (.bool true)) (b₀.nsMap 51) (b₀.nsMap 38) mg mb (fdOf K 36) := by
  have N1 : b₀.Ns 51 (b₀.nsMap 51) := .of_isNs (isNs_of_in X F.n1)
  have N2 : b₀.Ns 38 (b₀.nsMap 38) := .of_isNs (isNs_of_in X F.n2)
  have non := F.non
  have nor := F.nor
  simp only [List.all_cons, List.all_nil, Bool.and_true, Bool.and_eq_true, beq_iff_eq] at non nor
  obtain ⟨n1, n2, n3, n4⟩ := non
  obtain ⟨m2, m3, m4⟩ := nor
  obtain ⟨c0, d0, cd, sl, r1, r2⟩ := F.r
  obtain ⟨d, sl2, f1⟩ := F.f_
  obtain ⟨o, n, t1, t2⟩ := F.dat
  exact ⟨X, ⟨X _ _ F.c, N1, c0, d0, cd, sl, X _ _ r1, by rw [r2]; exact N2⟩, lim, hg, mg_none_of X hg F.gE, hb, (hbb _ (by decide)).trans (by kernel_rfl),
    ns_none_of X N1 n1, ns_some X N2 F.rI, ⟨d, sl2, X _ _ f1⟩, F.body, F.clos, F.glob, F.blt, F.fk, F.co, F.gen, F.names, codeRec_of X F.rec_, F.dflt,
    ⟨o, n, X _ _ t1, t2⟩, F.bind, ns_none_of X N1 n2, ns_none_of X N2 m2, ns_none_of X N1 n3, ns_none_of X N2 m3, ns_none_of X N1 n4, ns_none_of X N2 m4, F.clsE⟩
theorem ints_lay : ∀ xs : List Int, PyData.canLayAll0 (xs.map .int) = true
  | [] => rfl
  | x :: xs => by simp only [List.map_cons, PyData.canLayAll0, PyData.canLay0, ints_lay xs]; rfl
theorem bind_ini {fd : FuncData} (hp : fd.params = { posonlyargs := [], args := [{ arg := Str.ofString "self", annotation := none, pos := ⟨7, 17, 7, 21⟩ }, { arg := Str.ofString "message", annotation := none, pos := ⟨7, 23, 7, 30⟩ }, { arg := Str.ofString "spot", annotation := none, pos := ⟨7, 32, 7, 36⟩ }], vararg := none, kwonlyargs := [], kw_defaults := [], kwarg := none, defaults := [.Constant .none 0 ⟨7, 37, 7, 41⟩] }) (a b : Value) :
    ∃ k : Option (Array Value) → Sem (List (Str × Value)), bindArgs fd ⟨[a, b], []⟩ = (seqItems? fd.defaults >>= k) ∧ k (some #[.none]) = pure [(Str.ofString "self", a), (Str.ofString "message", b), (Str.ofString "spot", Value.none)] := by
  unfold bindArgs
  rw [hp]
  exact ⟨_, rfl, rfl⟩
noncomputable def FnsK (K : Frag) : List (Addr × Fn) → Prop
  | [] => True
  | p :: r => FnK K p.1 p.2 (fdOf K p.1) ∧ FnsK K r
theorem FnsK.at {K : Frag} : ∀ {l : List (Addr × Fn)}, FnsK K l → ∀ (i : Nat) (p : Addr × Fn), l[i]? = some p → ∃ fd, FnK K p.1 p.2 fd
  | [], _, _, _, e => by simp at e
  | q :: r, h, 0, p, e => by
    simp only [List.getElem?_cons_zero, Option.some.injEq] at e
    subst e
    exact ⟨_, h.1⟩
  | q :: r, h, i + 1, p, e => FnsK.at h.2 i p (by simpa using e)
theorem fns_of {K : Frag} (h : FnsK K (faL.zip fns)) : ∀ f fn, fns[f]? = some fn → ∃ fd, FnK K (faF f) fn fd := by
  intro f fn e
  have hf : f < 52 := (List.getElem?_eq_some_iff.mp e).1
  have hz : (faL.zip fns)[f]? = some (faF f, fn) := by
    rw [List.getElem?_zip_eq_some]
    refine ⟨?_, e⟩
    show faL[f]? = some (faL.getD f 0)
    rw [List.getD_eq_getElem?_getD, List.getElem?_eq_getElem (by rw [show faL.length = 52 from rfl]; exact hf)]; rfl
  exact FnsK.at h f _ hz
noncomputable abbrev Bv5 := Value → Value → Value → Value → Value → Sem (List (Str × Value))
structure Rw5 where
  at_ : Option FuncData
  body : FuncBody
  clos : List (Str × Addr)
  glob : Addr
  blt : Addr
  kind : ScopeKind
  co : Bool
  gen : Bool
  rec_ : Option Str
  bind : Bv5
  okB : Bool
  okT : Bool
  np : Bool
noncomputable def rwL (K : Frag) (p : Addr × Fn) : Rw5 := ⟨fdAt K p.1, (fdOf K p.1).body, (fdOf K p.1).closure, (fdOf K p.1).globals, (fdOf K p.1).builtins, (fdOf K p.1).scope.kind, (fdOf K p.1).scope.isCoroutine, (fdOf K p.1).scope.isGenerator, codeAt K (fdOf K p.1).code,
  fun a b c d e => bindArgs (fdOf K p.1) ⟨[a, b, c, d, e].take p.2.np, []⟩, okSL tab (fdOf K p.1).scope p.2.tb p.2.body, okFn (fdOf K p.1).scope p.2, Nat.ble p.2.np 5⟩
noncomputable def rwR (K : Frag) (p : Addr × Fn) : Rw5 := ⟨some (fdOf K p.1), .stmts (slSt tab p.2.tb p.2.body), [], mainGlobals, builtinsNs, .function, false, false, some (fdOf K p.1).qualname,
  fun a b c d e => pure (((p.2.tb.take p.2.np).map (·.1)).zip ([a, b, c, d, e].take p.2.np)), true, true, true⟩
theorem take_of {β : Type} {f g : List Value → β} : ∀ {vals : List Value}, Nat.ble vals.length 5 = true → (fun a b c d e => f ([a, b, c, d, e].take vals.length)) = (fun a b c d e => g ([a, b, c, d, e].take vals.length)) → f vals = g vals
  | [], _, h => congrFun (congrFun (congrFun (congrFun (congrFun h default) default) default) default) default
  | [a], _, h => congrFun (congrFun (congrFun (congrFun (congrFun h a) default) default) default) default
  | [a, b], _, h => congrFun (congrFun (congrFun (congrFun (congrFun h a) b) default) default) default
  | [a, b, c], _, h => congrFun (congrFun (congrFun (congrFun (congrFun h a) b) c) default) default
  | [a, b, c, d], _, h => congrFun (congrFun (congrFun (congrFun (congrFun h a) b) c) d) default
  | [a, b, c, d, e], _, h => congrFun (congrFun (congrFun (congrFun (congrFun h a) b) c) d) e
theorem fnK_of {K : Frag} {p : Addr × Fn} (h : rwL K p = rwR K p) : FnK K p.1 p.2 (fdOf K p.1) :=
  ⟨congrArg Rw5.at_ h, congrArg Rw5.body h, congrArg Rw5.clos h, congrArg Rw5.glob h, congrArg Rw5.blt h, congrArg Rw5.kind h, congrArg Rw5.co h, congrArg Rw5.gen h, congrArg Rw5.rec_ h,
    fun vals e => take_of (f := fun vals => bindArgs (fdOf K p.1) ⟨vals, []⟩) (g := fun vals => pure (((p.2.tb.take p.2.np).map (·.1)).zip vals)) (e ▸ congrArg Rw5.np h) (by rw [e]; exact congrArg Rw5.bind h), congrArg Rw5.okB h, congrArg Rw5.okT h⟩
theorem fnsK_of {K : Frag} : ∀ {l : List (Addr × Fn)}, l.map (rwL K) = l.map (rwR K) → FnsK K l
  | [], _ => trivial
  | _ :: _, h => ⟨fnK_of (List.cons.inj h).1, fnsK_of (List.cons.inj h).2⟩
theorem FnsK.app {K : Frag} : ∀ {l r : List (Addr × Fn)}, FnsK K l → FnsK K r → FnsK K (l ++ r)
  | [], _, _, h => h
  | _ :: _, _, h, h' => ⟨h.1, h.2.app h'⟩
noncomputable def part (i j : Nat) : List (Addr × Fn) := ((faL.zip fns).take j).drop i
theorem fns_all {K : Frag} (a : FnsK K (part 0 20)) (b : FnsK K (part 20 36)) (c : FnsK K (part 36 46)) (d : FnsK K (part 46 52)) : FnsK K (faL.zip fns) := (a.app (b.app (c.app d)) : FnsK K (part 0 20 ++ (part 20 36 ++ (part 36 46 ++ part 46 52))))
end Mine
namespace Mine.head
theorem tw3746228215898030841 : True := ⟨⟩
theorem tw2326617092838664518 : True := ⟨⟩
theorem tw466721876749952763 : True := ⟨⟩
theorem tw8912104118211102971 : True := ⟨⟩
theorem tw18433677622606106133 : True := ⟨⟩
theorem tw13508044439285423174 : True := ⟨⟩
theorem tw12074249297620881909 : True := ⟨⟩
theorem tw6388477656530123435 : True := ⟨⟩
theorem tw14882813523228863612 : True := ⟨⟩
theorem tw12604462930493870256 : True := ⟨⟩
theorem tw6211381574409162282 : True := ⟨⟩
theorem tw9062998866958442273 : True := ⟨⟩
theorem tw16572314662081343053 : True := ⟨⟩
theorem tw11821203517306503961 : True := ⟨⟩
theorem tw13246386896891170512 : True := ⟨⟩
theorem tw15671972229068485812 : True := ⟨⟩
theorem tw14744981736328886265 : True := ⟨⟩
theorem tw5019597260055213698 : True := ⟨⟩
theorem tw45052839361067614 : True := ⟨⟩
theorem tw748731779930912776 : True := ⟨⟩
theorem tw2728595385866086531 : True := ⟨⟩
theorem tw11290360913936777911 : True := ⟨⟩
theorem tw15895551434495452948 : True := ⟨⟩
theorem tw4764554697811233 : True := ⟨⟩
theorem tw13337238644230332656 : True := ⟨⟩
theorem tw6053349399257934933 : True := ⟨⟩
theorem tw10258521583956687137 : True := ⟨⟩
theorem tw16800043278716471037 : True := ⟨⟩
theorem tw10079960370226730655 : True := ⟨⟩
theorem tw12478146576626367362 : True := ⟨⟩
theorem tw820421773197932041 : True := ⟨⟩
theorem tw2355103038987944067 : True := ⟨⟩
theorem tw13585267454733459922 : True := ⟨⟩
theorem tw3980653432952411973 : True := ⟨⟩
theorem tw17173245716831642929 : True := ⟨⟩
theorem tw10431609616501453582 : True := ⟨⟩
theorem tw3944913497352057107 : True := ⟨⟩
theorem tw4196546014268931301 : True := ⟨⟩
theorem tw8812732774380208333 : True := ⟨⟩
theorem tw6237802210402583469 : True := ⟨⟩
theorem tw4528443807372415038 : True := ⟨⟩
theorem tw14843749296085226474 : True := ⟨⟩
theorem tw6161856959107265637 : True := ⟨⟩
theorem tw1027831800304782257 : True := ⟨⟩
theorem tw1495726902847802894 : True := ⟨⟩
theorem tw8874674299285249911 : True := ⟨⟩
theorem tw16817119741492734445 : True := ⟨⟩
theorem tw8758324158161630591 : True := ⟨⟩
theorem tw3304075619188804072 : True := ⟨⟩
theorem tw69809265629811306 : True := ⟨⟩
theorem tw12773685731770592110 : True := ⟨⟩
theorem tw12398312691204496596 : True := ⟨⟩
theorem tw6088685845774392931 : True := ⟨⟩
theorem tw11105056867450500199 : True := ⟨⟩
theorem tw11434997419882176723 : True := ⟨⟩
theorem tw4709128311485490483 : True := ⟨⟩
theorem tw13743032657059413451 : True := ⟨⟩
theorem tw17453365369857097546 : True := ⟨⟩
theorem tw4857777746444614323 : True := ⟨⟩
theorem tw15894371620910866019 : True := ⟨⟩
theorem tw9592777112578238593 : True := ⟨⟩
theorem tw15798066900824788120 : True := ⟨⟩
theorem tw649443455394278489 : True := ⟨⟩
theorem tw15539854500240908086 : True := ⟨⟩
theorem tw15510365090734361527 : True := ⟨⟩
theorem tw15895748673760503845 : True := ⟨⟩
theorem tw12310735299239354703 : True := ⟨⟩
theorem tw16966009324859112401 : True := ⟨⟩
theorem tw1319983325249436295 : True := ⟨⟩
theorem tw16031315777459398524 : True := ⟨⟩
theorem tw48543519692965452 : True := ⟨⟩
theorem tw18007968972792079559 : True := ⟨⟩
theorem tw6880043348581005364 : True := ⟨⟩
theorem tw5737951250597237232 : True := ⟨⟩
theorem tw4277651752456152607 : True := ⟨⟩
theorem tw3501597964444990463 : True := ⟨⟩
theorem tw17646911460466567920 : True := ⟨⟩
theorem tw4972248218790579157 : True := ⟨⟩
theorem tw10668533816033670360 : True := ⟨⟩
theorem tw4480743714743834726 : True := ⟨⟩
theorem tw1457377512435260902 : True := ⟨⟩
theorem tw3690969761935527329 : True := ⟨⟩
theorem tw10015159338476511836 : True := ⟨⟩
theorem tw12024539317367501503 : True := ⟨⟩
theorem tw5723944856813171866 : True := ⟨⟩
theorem tw3986194592780655508 : True := ⟨⟩
theorem tw1315816938146588887 : True := ⟨⟩
theorem tw1919001801439425371 : True := ⟨⟩
theorem tw12892129938458570674 : True := ⟨⟩
theorem tw8169693465737517768 : True := ⟨⟩
theorem tw7253898381062576733 : True := ⟨⟩
theorem tw3160712208675142370 : True := ⟨⟩
theorem tw8479801150676808524 : True := ⟨⟩
theorem tw16128420640991077102 : True := ⟨⟩
theorem tw7802898811600756450 : True := ⟨⟩
theorem tw5944575059761466720 : True := ⟨⟩
theorem tw8451290768687142514 : True := ⟨⟩
theorem tw15091486752826498866 : True := ⟨⟩
theorem tw8150599627031302055 : True := ⟨⟩
theorem tw5986637957666399235 : True := ⟨⟩
theorem tw14628233357713752721 : True := ⟨⟩
theorem tw9658139154387788515 : True := ⟨⟩
theorem tw17197444120159719569 : True := ⟨⟩
theorem tw8603420104599213669 : True := ⟨⟩
theorem tw5617373736292572815 : True := ⟨⟩
theorem tw11308087075614649832 : True := ⟨⟩
theorem tw9978949632667528635 : True := ⟨⟩
theorem tw3790771472595898956 : True := ⟨⟩
theorem tw7494366503370351645 : True := ⟨⟩
theorem tw6846597200999610202 : True := ⟨⟩
theorem tw14139502460874162764 : True := ⟨⟩
theorem tw17674571679781333832 : True := ⟨⟩
theorem tw12858780395421280599 : True := ⟨⟩
theorem tw5788964047882338313 : True := ⟨⟩
theorem tw7994106446794305319 : True := ⟨⟩
theorem tw2506711637615833298 : True := ⟨⟩
theorem tw17844492200522320778 : True := ⟨⟩
theorem tw15148963937461231693 : True := ⟨⟩
theorem tw8035625575855466936 : True := ⟨⟩
theorem tw14676189674455941282 : True := ⟨⟩
theorem tw12359489953124434286 : True := ⟨⟩
theorem tw17002534310236347988 : True := ⟨⟩
theorem tw10510622979536455646 : True := ⟨⟩
theorem tw13295774097974887486 : True := ⟨⟩
theorem tw7680146299302783591 : True := ⟨⟩
theorem tw9984397402777080727 : True := ⟨⟩
theorem tw4160124254940468481 : True := ⟨⟩
theorem tw4975070653579243887 : True := ⟨⟩
theorem tw17113217626458354986 : True := ⟨⟩
theorem tw5927865893512547691 : True := ⟨⟩
theorem tw14788773977795034992 : True := ⟨⟩
theorem tw18384547517478447814 : True := ⟨⟩
theorem tw17782148633632673465 : True := ⟨⟩
theorem tw497287684792784471 : True := ⟨⟩
theorem tw10812213935944405949 : True := ⟨⟩
theorem tw14969872817325187116 : True := ⟨⟩
theorem tw8997269238129315039 : True := ⟨⟩
theorem tw6588589085864783938 : True := ⟨⟩
theorem tw532055438628499158 : True := ⟨⟩
theorem tw11005904730967762025 : True := ⟨⟩
theorem tw9082462177598256812 : True := ⟨⟩
theorem tw3453547403478019728 : True := ⟨⟩
theorem tw1211024037004892549 : True := ⟨⟩
theorem tw10519217271611395807 : True := ⟨⟩
theorem tw7450023128482652576 : True := ⟨⟩
theorem tw3368030927266983236 : True := ⟨⟩
theorem tw300626226527484142 : True := ⟨⟩
theorem tw262713603470380999 : True := ⟨⟩
theorem tw12903917746401883607 : True := ⟨⟩
theorem tw9820158181544301314 : True := ⟨⟩
theorem tw2237326684586592538 : True := ⟨⟩
theorem tw12330954535739239725 : True := ⟨⟩
theorem tw17411354535832351560 : True := ⟨⟩
theorem tw10205530081349824492 : True := ⟨⟩
theorem tw533756555076263647 : True := ⟨⟩
theorem tw17577399041416155939 : True := ⟨⟩
theorem tw4746297304354101679 : True := ⟨⟩
theorem tw3688799982635324794 : True := ⟨⟩
theorem tw7712916153251135833 : True := ⟨⟩
theorem tw17188972718952451159 : True := ⟨⟩
theorem tw7906546307943345882 : True := ⟨⟩
theorem tw5508695066786827253 : True := ⟨⟩
theorem tw9103479521544129834 : True := ⟨⟩
theorem tw13896987355042952010 : True := ⟨⟩
theorem tw14205479233844494046 : True := ⟨⟩
theorem tw15520248196984853422 : True := ⟨⟩
theorem tw851385035628625539 : True := ⟨⟩
theorem tw9114333099845857663 : True := ⟨⟩
theorem tw1643771367246577777 : True := ⟨⟩
theorem tw14527164170590304321 : True := ⟨⟩
theorem tw6079359036626576793 : True := ⟨⟩
theorem tw742351954350328859 : True := ⟨⟩
theorem tw10706776884845955466 : True := ⟨⟩
theorem tw10840385229135970747 : True := ⟨⟩
theorem tw10366927770000222440 : True := ⟨⟩
theorem tw1748456618969930982 : True := ⟨⟩
theorem tw7658410731251134818 : True := ⟨⟩
theorem tw15064752311394979489 : True := ⟨⟩
theorem tw5506250874072839755 : True := ⟨⟩
theorem tw10730805705081004914 : True := ⟨⟩
theorem tw1852205218256702202 : True := ⟨⟩
theorem tw18332285231265401824 : True := ⟨⟩
theorem tw10533634037010066435 : True := ⟨⟩
theorem tw18051680202136193954 : True := ⟨⟩
theorem tw930087139818521243 : True := ⟨⟩
theorem tw7833285031277912329 : True := ⟨⟩
theorem tw16640130746408290383 : True := ⟨⟩
theorem tw3615648651819825313 : True := ⟨⟩
theorem tw1620002657737552111 : True := ⟨⟩
theorem tw8097174177036852075 : True := ⟨⟩
theorem tw4433315090154635215 : True := ⟨⟩
theorem tw4965378191221513410 : True := ⟨⟩
theorem tw15296082917334920728 : True := ⟨⟩
theorem tw16922147877168347812 : True := ⟨⟩
theorem tw10898857373019930491 : True := ⟨⟩
theorem tw12352672977532951062 : True := ⟨⟩
theorem tw733406405333840765 : True := ⟨⟩
theorem tw17332727794074296334 : True := ⟨⟩
theorem tw16847831306532103052 : True := ⟨⟩
theorem tw11426403942048686318 : True := ⟨⟩
theorem tw17552560543380974038 : True := ⟨⟩
theorem tw16984083398119652359 : True := ⟨⟩
theorem tw14667470093908496907 : True := ⟨⟩
theorem tw2154566216772986472 : True := ⟨⟩
theorem tw1016134997963823798 : True := ⟨⟩
theorem tw8773370040425892893 : True := ⟨⟩
theorem tw3556061257289618393 : True := ⟨⟩
theorem tw12870424476946447624 : True := ⟨⟩
theorem tw4693820183103290663 : True := ⟨⟩
theorem tw5906749814970224870 : True := ⟨⟩
theorem tw7013799640231393816 : True := ⟨⟩
theorem tw12147184966966947637 : True := ⟨⟩
theorem tw9495540839478616804 : True := ⟨⟩
theorem tw3547240966391284428 : True := ⟨⟩
theorem tw12043669396524033845 : True := ⟨⟩
theorem tw44622916816846810 : True := ⟨⟩
theorem tw2825341998796452840 : True := ⟨⟩
theorem tw2340069552987342377 : True := ⟨⟩
theorem tw13198292447841614426 : True := ⟨⟩
theorem tw10018764681926925449 : True := ⟨⟩
theorem tw18123143868385100064 : True := ⟨⟩
theorem tw16894197260953374720 : True := ⟨⟩
theorem tw6110071263904590700 : True := ⟨⟩
theorem tw9074772780463953568 : True := ⟨⟩
theorem tw7287109101882759415 : True := ⟨⟩
theorem tw9083612298779875492 : True := ⟨⟩
theorem tw3991279037241028524 : True := ⟨⟩
theorem tw8866670633112419022 : True := ⟨⟩
theorem tw9702098958229961203 : True := ⟨⟩
theorem tw8715499118904818895 : True := ⟨⟩
theorem tw1689142752476645926 : True := ⟨⟩
theorem tw8216834362191484069 : True := ⟨⟩
theorem tw13294958713779813728 : True := ⟨⟩
theorem tw14943480678444902952 : True := ⟨⟩
theorem tw12822298378996975857 : True := ⟨⟩
theorem tw2581250870941146908 : True := ⟨⟩
theorem tw16714887947964762639 : True := ⟨⟩
theorem tw14417885227837004991 : True := ⟨⟩
theorem tw11692735721529064706 : True := ⟨⟩
theorem tw2554682012703037696 : True := ⟨⟩
theorem tw2249667046024356820 : True := ⟨⟩
theorem tw6263757390663516306 : True := ⟨⟩
theorem tw7704315382344345624 : True := ⟨⟩
theorem tw13078646160514809887 : True := ⟨⟩
theorem tw15501141472565082077 : True := ⟨⟩
theorem tw17014734716931888790 : True := ⟨⟩
theorem tw3088210815446039105 : True := ⟨⟩
theorem tw17789423225533864492 : True := ⟨⟩
theorem tw13906610036690215845 : True := ⟨⟩
theorem tw16997897962222511 : True := ⟨⟩
theorem tw15035418422258542911 : True := ⟨⟩
theorem tw16172288393029767808 : True := ⟨⟩
theorem tw15735840784391694233 : True := ⟨⟩
theorem tw16106133796442146334 : True := ⟨⟩
theorem tw12763952150808568291 : True := ⟨⟩
theorem tw6846866878297920324 : True := ⟨⟩
theorem tw9353324838224930552 : True := ⟨⟩
theorem tw17142359554024780413 : True := ⟨⟩
theorem tw5764021196749891206 : True := ⟨⟩
theorem tw1985537357303476512 : True := ⟨⟩
theorem tw12740806245664736207 : True := ⟨⟩
theorem tw2525317073905713282 : True := ⟨⟩
theorem tw13605870324054321959 : True := ⟨⟩
theorem tw12364624919760631829 : True := ⟨⟩
theorem tw5651425540991249520 : True := ⟨⟩
theorem tw10356212845559719233 : True := ⟨⟩
theorem tw9014781339899895827 : True := ⟨⟩
theorem tw467416434755642258 : True := ⟨⟩
theorem tw3581614266968435656 : True := ⟨⟩
theorem tw1134157569726261602 : True := ⟨⟩
theorem tw2591067827882107080 : True := ⟨⟩
theorem tw5331137831679937033 : True := ⟨⟩
theorem tw5438144065070405397 : True := ⟨⟩
theorem tw3089916443595474862 : True := ⟨⟩
theorem tw2096541523181747872 : True := ⟨⟩
theorem tw2864405669816312776 : True := ⟨⟩
theorem tw6298033893332097587 : True := ⟨⟩
theorem tw3973953319845086491 : True := ⟨⟩
theorem tw6836605351468522007 : True := ⟨⟩
theorem tw8402214883040486957 : True := ⟨⟩
theorem tw12775505166333009402 : True := ⟨⟩
theorem tw17698105195316432488 : True := ⟨⟩
theorem tw7404141018258913797 : True := ⟨⟩
theorem tw7599496313472250701 : True := ⟨⟩
theorem tw4009957668330374740 : True := ⟨⟩
theorem tw5015311536963163689 : True := ⟨⟩
theorem tw14699528089545365996 : True := ⟨⟩
theorem tw11484358847640170188 : True := ⟨⟩
theorem tw5140934472235413692 : True := ⟨⟩
theorem tw7523532297153676066 : True := ⟨⟩
theorem tw5870146547769353613 : True := ⟨⟩
theorem tw17854896373637125580 : True := ⟨⟩
theorem tw16111715859725283846 : True := ⟨⟩
theorem tw9746458257258439470 : True := ⟨⟩
theorem tw6889739017440866108 : True := ⟨⟩
theorem tw2694075680205673411 : True := ⟨⟩
theorem tw4381510469713062047 : True := ⟨⟩
theorem tw14512941343882779238 : True := ⟨⟩
theorem tw8185714761375850791 : True := ⟨⟩
theorem tw8159583801465064534 : True := ⟨⟩
theorem tw1499353310998574721 : True := ⟨⟩
theorem tw7928285938522686346 : True := ⟨⟩
theorem tw14387253260952625049 : True := ⟨⟩
theorem tw12865059321931465230 : True := ⟨⟩
theorem tw12998212659555988865 : True := ⟨⟩
theorem tw11620454917001059742 : True := ⟨⟩
theorem tw2879759524354350568 : True := ⟨⟩
theorem tw3496171461512900480 : True := ⟨⟩
theorem tw5092371620264689978 : True := ⟨⟩
theorem tw15468718075485040107 : True := ⟨⟩
theorem tw5629256929840616583 : True := ⟨⟩
theorem tw15112835437128306455 : True := ⟨⟩
theorem tw10987702880554017565 : True := ⟨⟩
theorem tw6474009502463322548 : True := ⟨⟩
theorem tw3869590956505411354 : True := ⟨⟩
theorem tw10504981510240967646 : True := ⟨⟩
theorem tw7512725033676591148 : True := ⟨⟩
theorem tw5401097623525119610 : True := ⟨⟩
theorem tw3083302935323014018 : True := ⟨⟩
theorem tw6684978435548883818 : True := ⟨⟩
theorem tw12201952087667049370 : True := ⟨⟩
theorem tw15638870477510070732 : True := ⟨⟩
theorem tw17826015225549371706 : True := ⟨⟩
theorem tw9280153536138602973 : True := ⟨⟩
theorem tw3749026756887285471 : True := ⟨⟩
theorem tw3794523003379204399 : True := ⟨⟩
theorem tw12841863872788715202 : True := ⟨⟩
theorem tw6587087628758450585 : True := ⟨⟩
theorem tw7417405269818204032 : True := ⟨⟩
theorem tw11862927689305589065 : True := ⟨⟩
theorem tw8299393411229908732 : True := ⟨⟩
theorem tw12344544660321961925 : True := ⟨⟩
theorem tw17017319662998615 : True := ⟨⟩
theorem tw11194998557105285118 : True := ⟨⟩
theorem tw12472887615940459650 : True := ⟨⟩
theorem tw16874305072444578374 : True := ⟨⟩
theorem tw5479459121986351116 : True := ⟨⟩
theorem tw12949380547846470161 : True := ⟨⟩
theorem tw13986843968525588388 : True := ⟨⟩
theorem tw3665506230870052707 : True := ⟨⟩
theorem tw16441004959143088680 : True := ⟨⟩
theorem tw8895791426145780158 : True := ⟨⟩
theorem tw11116721612917661325 : True := ⟨⟩
theorem tw12164814363833626249 : True := ⟨⟩
theorem tw13086575352542018947 : True := ⟨⟩
theorem tw13335025841360890868 : True := ⟨⟩
theorem tw7876399200375917224 : True := ⟨⟩
theorem tw9101448428047585222 : True := ⟨⟩
theorem tw17958272820484234708 : True := ⟨⟩
theorem tw15037083628117588352 : True := ⟨⟩
theorem tw14982685227137828758 : True := ⟨⟩
theorem tw16172356507618199906 : True := ⟨⟩
theorem tw2529948359932261575 : True := ⟨⟩
theorem tw4415685298772064003 : True := ⟨⟩
theorem tw1633178978018031862 : True := ⟨⟩
theorem tw1276956409769668328 : True := ⟨⟩
theorem tw15506723302920939300 : True := ⟨⟩
theorem tw5111174896325423537 : True := ⟨⟩
theorem tw17265401458761052179 : True := ⟨⟩
theorem tw1506576300011279404 : True := ⟨⟩
theorem tw9987851973559822609 : True := ⟨⟩
theorem tw15204471325056678010 : True := ⟨⟩
theorem tw17508272824862286709 : True := ⟨⟩
theorem tw6121141971511671821 : True := ⟨⟩
theorem tw12032222614953749359 : True := ⟨⟩
theorem tw1463646239528298992 : True := ⟨⟩
theorem tw5238325282659567380 : True := ⟨⟩
theorem tw4607607821588926596 : True := ⟨⟩
theorem tw5207666765276788736 : True := ⟨⟩
theorem tw8627200689577751383 : True := ⟨⟩
theorem tw3547030090768783262 : True := ⟨⟩
theorem tw11714945338242495837 : True := ⟨⟩
theorem tw12851702773856589430 : True := ⟨⟩
theorem tw9325057278558614444 : True := ⟨⟩
theorem tw7808355641728742167 : True := ⟨⟩
theorem tw17988201657351507238 : True := ⟨⟩
theorem tw15410735652082386980 : True := ⟨⟩
theorem tw14679116673082234219 : True := ⟨⟩
theorem tw17700853532424174462 : True := ⟨⟩
theorem tw16072502192527678464 : True := ⟨⟩
theorem tw14999265807660949796 : True := ⟨⟩
theorem tw9196398404247428943 : True := ⟨⟩
theorem tw2518057956044344595 : True := ⟨⟩
theorem tw7688317290187622652 : True := ⟨⟩
theorem tw14842460003800876886 : True := ⟨⟩
theorem tw16782820856776367440 : True := ⟨⟩
theorem tw6772502638888315869 : True := ⟨⟩
theorem tw13353151263460963528 : True := ⟨⟩
theorem tw2745132233910449083 : True := ⟨⟩
theorem tw13988103294471073821 : True := ⟨⟩
theorem tw8408249889716310983 : True := ⟨⟩
theorem tw15782939476341012554 : True := ⟨⟩
theorem tw14393718171448925343 : True := ⟨⟩
theorem tw6247268493268985975 : True := ⟨⟩
theorem tw1909714482019496454 : True := ⟨⟩
theorem tw7758381527925395934 : True := ⟨⟩
theorem tw5319049981483164881 : True := ⟨⟩
theorem tw13955511503576765797 : True := ⟨⟩
theorem tw11124748197601291601 : True := ⟨⟩
theorem tw2491421050496283774 : True := ⟨⟩
theorem tw14492117785962260688 : True := ⟨⟩
theorem tw3103639331685909893 : True := ⟨⟩
theorem tw7119846925741900413 : True := ⟨⟩
theorem tw8414573866900348196 : True := ⟨⟩
theorem tw17608190574486352970 : True := ⟨⟩
theorem tw5487235932777146282 : True := ⟨⟩
theorem tw9625377726130185387 : True := ⟨⟩
theorem tw2400818531096893172 : True := ⟨⟩
theorem tw2260579728952749127 : True := ⟨⟩
theorem tw10786079294511566085 : True := ⟨⟩
theorem tw6737735255597943219 : True := ⟨⟩
theorem tw5973763720392745831 : True := ⟨⟩
theorem tw5638995163158488052 : True := ⟨⟩
theorem tw15326552575505426906 : True := ⟨⟩
theorem tw10865165270600546614 : True := ⟨⟩
theorem tw18416563613846182222 : True := ⟨⟩
theorem tw13180129090757240718 : True := ⟨⟩
theorem tw17243387458012846398 : True := ⟨⟩
theorem tw14643560169476415855 : True := ⟨⟩
theorem tw1928279266115088756 : True := ⟨⟩
theorem tw4060895333546524858 : True := ⟨⟩
end Mine.head
set_option tactic.hygienic true
set_option Elab.async true
set_option maxHeartbeats 8000000 in
theorem Mine.head : PySem.Challenge.rw_pq0701_01.Holds := by
  (w_on; o_law; k_head; (case hw => w_witness2); w_strict (
  k_fill
  intro w s₀ s₁ mg mb G Y fa o pm cd doc dV kV ho hd hcd hD hmg hg args vals as hpre hlay hrd hwl hlo
  have KX := kIn_of Y
  have X := (Ground.X G).1
  have V := (Ground.X G).2
  refine Ground.open G ?_
  intro T B D TE TW
  wrow_args hpre hlay hrd hwl hlo
  rename_i xs hs hlay0 hL1 hr1 hl2 l4 l3 a l1 l0 hL ra wl r0 hI hrr hc1 hc2
  have hfa := hmg.symm.trans (mg_of KX T.g (v := .ref 456) (by kernel_rfl))
  obtain rfl : fa = 456 := by
    injection hfa with e
    injection e
  have kf : Mine.KF (Mine.head.heap_1_39 w.params) := ⟨by kernel_rfl, by kernel_rfl, by kernel_rfl, by kernel_rfl, Mine.fns_of (Mine.fns_all (Mine.fnsK_of (by kernel_rfl)) (Mine.fnsK_of (by kernel_rfl)) (Mine.fnsK_of (by kernel_rfl)) (Mine.fnsK_of (by kernel_rfl)))⟩
  have ek : Mine.ExcK (Mine.head.heap_1_39 w.params) := by
    refine ⟨by kernel_rfl, by kernel_rfl, by kernel_rfl, ⟨_, _, _, _, rfl, rfl⟩, by kernel_rfl, by kernel_rfl, by kernel_rfl, by kernel_rfl, ⟨none, #[], ?_⟩, by kernel_rfl, by kernel_rfl, by kernel_rfl, by kernel_rfl, by kernel_rfl, by kernel_rfl, by kernel_rfl, by kernel_rfl, by kernel_rfl, by kernel_rfl, ⟨_, _, rfl, rfl⟩, ?_, by kernel_rfl⟩
    · kernel_rfl
    · exact Mine.bind_ini (by kernel_rfl)
  have E0 := Mine.exc0_of KX ek T.nolimit T.g T.b T.builtins
  have hsys : ∃ o, s₁.heap.get? sysModules = some o := by
    obtain ⟨mm, ⟨o, es, ep, ho, _⟩, _⟩ := (T.seer (by kernel_rfl)).mods
    exact ⟨o, ho⟩
  show wpAny _ callerA (call (.ref 456) [.ref a]) _ _ s₁
  refine Mine.final (K := (Mine.head.heap_1_39 w.params)) (lf := 52) (xs := xs) KX kf T.nolimit hsys T.nodigits T.g T.b T.builtins (mg_of KX T.g (by kernel_rfl)) (Mine.raise_w E0) (Mine.match_w E0) rfl rfl (by decide +kernel) (by decide +kernel) rfl ⟨⟨_, r0⟩, Mine.ints_lay xs⟩ (by omega) (fun h' tk keep => ?_)
  exact GoodW.toG ⟨.inl ⟨.bool true, .bool true, [], rfl, raisesW_false (by wrow_none_raised), .bool true, by wrow_post, fun _ => ⟨List.nodup_nil, fun b hb => (by cases hb)⟩⟩, keep, rfl, hg⟩))
theorem PySem.Challenge.cw_pq0701_01_holds : PySem.Challenge.rw_pq0701_01.Holds :=
  Mine.head
