import PyProof.Rows.All
import Wide.All
import OpenK.AllK
import Wide.FinOn
import KE.KPar
import Lean
import PySem.Challenge.RW_xm0055_01
set_option Elab.async false
set_option linter.all false
set_option genInjectivity false
set_option genSizeOf false
section
set_option genInjectivity false
set_option genSizeOf false
open PySem
namespace Mn
inductive BI where
  | len | abs | range | isinst | enum | dict | max | tstr | ttup
inductive MV where
  | none
  | bool (b : Bool)
  | int (i : Int)
  | str (n : Nat)
  | tup (vs : List MV)
  | ref (k : Nat)
  | fn (f : Nat)
  | cls (c : Nat)
  | bm (k : Nat) (f : Nat)
  | bi (b : BI)
inductive MO where
  | list (vs : List MV)
  | frz (vs : List MV)
  | dict (es : List (MV × MV))
  | inst (c : Nat) (d : Nat)
structure MH where
  next : Nat
  get : Nat → Option MO
noncomputable def MH.upd (H : MH) (k : Nat) (o : MO) : MH := ⟨H.next, fun j => if j = k then some o else H.get j⟩
noncomputable def MH.new (H : MH) (o : MO) : MH := ⟨H.next + 1, fun j => if j = H.next then some o else H.get j⟩
inductive Op where
  | add | sub | mul | fdiv | mod | shl
  deriving DecidableEq
inductive Co where
  | eq | ne | lt | le | gt | ge | is | isn | inn | nin
inductive CT where
  | one (x : Nat)
  | two (x y : Nat)
inductive MX where
  | cst (v : MV)
  | loc (x : Nat)
  | glb (x : Nat)
  | bin (op : Op) (a b : MX)
  | neg (a : MX)
  | not (a : MX)
  | bop (conj : Bool) (es : List MX)
  | cmp (a : MX) (op : Co) (b : MX)
  | cmp2 (a : MX) (op : Co) (b : MX) (op' : Co) (c : MX)
  | ife (c a b : MX)
  | att (a : MX) (x : Nat)
  | sub (a i : MX)
  | slc (a : MX) (lo hi : Option MX)
  | call (f : MX) (as : List MX)
  | mth (o : MX) (x : Nat) (as : List MX)
  | tup (es : List MX)
  | lst (es : List MX)
  | dct
  | cmpr (e : MX) (t : CT) (it : MX) (ifs : List MX)
inductive MT where
  | nam (x : Nat)
  | tup (ts : List MT)
  | sub (a i : MX)
  | att (a : MX) (x : Nat)
inductive MS where
  | asg (t : MT) (e : MX)
  | aug (x : Nat) (op : Op) (e : MX)
  | ife (c : MX) (a b : List MS)
  | for_ (t : MT) (it : MX) (b : List MS)
  | whl (c : MX) (b : List MS)
  | ret (e : Option MX)
  | exp (e : MX)
  | rai (e : MX)
structure MF where
  params : List Nat
  body : List MS
noncomputable def code (s : Str) : Nat := s.cps.foldl (fun a c => a * 256 + c) 1
noncomputable def cd (s : String) : Nat := s.toList.foldl (fun a c => a * 256 + c.toNat) 1
noncomputable def trOp : Operator → Option Op
  | .Add => some .add | .Sub => some .sub | .Mult => some .mul | .FloorDiv => some .fdiv | .Mod => some .mod | .LShift => some .shl
  | _ => none
noncomputable def trCo : CmpOp → Option Co
  | .Eq => some .eq | .NotEq => some .ne | .Lt => some .lt | .LtE => some .le | .Gt => some .gt | .GtE => some .ge | .Is => some .is | .IsNot => some .isn | .In => some .inn | .NotIn => some .nin
noncomputable def low (s : Str) : Bool := s.cps.toList.all fun c => decide (c < 256)
noncomputable def trC : Const → Option MV
  | .none => some .none | .bool b => some (.bool b) | .int i => some (.int i) | .str s => if low s = true then some (.str (code s)) else none
  | _ => none
noncomputable def okN (x : Str) : Bool := low x && !(x == ("__debug__" : Str)) && !(x == ("__classdict__" : Str))
noncomputable def isCall : PySem.Expr → Bool
  | .Call .. => true
  | _ => false
noncomputable def isAttr : PySem.Expr → Bool
  | .Attribute .. => true
  | _ => false
noncomputable def isSlc : PySem.Expr → Bool
  | .Slice .. => true
  | _ => false
noncomputable def trN (sc : Scope) (x : Str) : Option MX := if okN x = false then none else match sc.names.lookup x with
  | some .local => some (.loc (code x))
  | some .cell => some (.loc (code x))
  | some .globalImplicit => some (.glb (code x))
  | _ => none
noncomputable def all? {α β : Type} (f : α → Option β) : List α → Option (List β)
  | [] => some []
  | a :: l => (f a).bind fun b => (all? f l).bind fun bs => some (b :: bs)
noncomputable def opt? {α β : Type} (f : α → Option β) : Option α → Option (Option β)
  | none => some none
  | some a => (f a).bind fun b => some (some b)
noncomputable def conj : BoolOp → Bool
  | .And => true
  | .Or => false
noncomputable def relab (sc' sc : Scope) : Scope := { sc' with names := sc'.names.map fun (n, k) => if (k == .free && sc.kind == .function && sc.names.lookup n == some .cell) then (n, .cell) else (n, k) }
noncomputable abbrev OkComp (sc' sc : Scope) : Prop := sc'.kind = .function ∧ sc.kind = .function ∧ (sc'.names.map (·.1)).Nodup ∧
    ∀ p ∈ sc'.names, low p.1 = true ∧ p.2 ≠ .cell ∧ (p.2 = .free → sc.names.lookup p.1 = some .cell)
noncomputable def CT.codes : CT → List Nat
  | .one x => [x]
  | .two x y => [x, y]
noncomputable def trL (sc : Scope) (e : PySem.Expr) : Option Nat := match e with
  | .Name x _ => if okN x = true ∧ sc.names.lookup x = some .local then some (code x) else none
  | _ => none
noncomputable def ctOf : List Nat → Option CT
  | [x, y] => some (.two x y)
  | _ => none
noncomputable def tupOf (t : PySem.Expr) : Option (List PySem.Expr) := match t with
  | .Tuple ts _ _ => some ts
  | _ => none
noncomputable def trCT (sc : Scope) (t : PySem.Expr) : Option CT := match tupOf t with
  | some ts => (all? (trL sc) ts).bind ctOf
  | none => (trL sc t).bind fun x => some (.one x)
noncomputable abbrev OkLoc (sc' : Scope) (t : CT) : Prop := ∀ p ∈ sc'.names, p.2 = .local → code p.1 ∈ cd ".0" :: t.codes
noncomputable def trE : Nat → Scope → PySem.Expr → Option MX
  | 0, _, _ => none
  | n + 1, sc, e => match e with
    | .Constant c _ _ => (trC c).bind fun v => some (.cst v)
    | .Name x _ => trN sc x
    | .BinOp l op r _ => (trE n sc l).bind fun a => (trOp op).bind fun o => (trE n sc r).bind fun b => some (.bin o a b)
    | .UnaryOp .USub a _ => (trE n sc a).bind fun a => some (.neg a)
    | .UnaryOp .Not a _ => (trE n sc a).bind fun a => some (.not a)
    | .BoolOp op es _ => (all? (trE n sc) es).bind fun es => some (.bop (conj op) es)
    | .Compare l [op] [r] _ => (trE n sc l).bind fun a => (trCo op).bind fun o => (trE n sc r).bind fun b => some (.cmp a o b)
    | .Compare l [op, op'] [r, r'] _ => (trE n sc l).bind fun a => (trCo op).bind fun o => (trE n sc r).bind fun b => (trCo op').bind fun o' => (trE n sc r').bind fun c => some (.cmp2 a o b o' c)
    | .IfExp c a b _ => (trE n sc c).bind fun c => (trE n sc a).bind fun a => (trE n sc b).bind fun b => some (.ife c a b)
    | .Attribute a x _ => if (low x && !isCall a) = true then (trE n sc a).bind fun a => some (.att a (code x)) else none
    | .Subscript a (.Slice lo hi none _) _ => (trE n sc a).bind fun a => (opt? (trE n sc) lo).bind fun lo => (opt? (trE n sc) hi).bind fun hi => some (.slc a lo hi)
    | .Subscript a i _ => (trE n sc a).bind fun a => (trE n sc i).bind fun i => some (.sub a i)
    | .Call (.Attribute o x ap) as [] p => if (low x && !isCall o && (ap.endLine == p.line) && decide (as.length < 30)) = true then (trE n sc o).bind fun o => (all? (trE n sc) as).bind fun as => some (.mth o (code x) as) else none
    | .Call f as [] _ => (trE n sc f).bind fun f => (all? (trE n sc) as).bind fun as => some (.call f as)
    | .Tuple es _ _ => (all? (trE n sc) es).bind fun es => some (.tup es)
    | .List es _ => (all? (trE n sc) es).bind fun es => some (.lst es)
    | .Dict [] [] _ => some .dct
    | .ListComp e [⟨t, it, ifs, na⟩] sc' _ => if na = 0 ∧ OkComp sc' sc then (trE n (relab sc' sc) e).bind fun e => (trCT (relab sc' sc) t).bind fun t => (trE n sc it).bind fun it => (all? (trE n (relab sc' sc)) ifs).bind fun ifs => if OkLoc sc' t then some (.cmpr e t it ifs) else none else none
    | _ => none
noncomputable def trT : Nat → Scope → PySem.Expr → Option MT
  | 0, _, _ => none
  | n + 1, sc, e => match e with
    | .Name x _ => if okN x = false then none else (match sc.names.lookup x with | some .local => some (.nam (code x)) | some .cell => some (.nam (code x)) | _ => none)
    | .Tuple ts _ _ => (all? (trT n sc) ts).bind fun ts => some (.tup ts)
    | .Subscript a i _ => if isSlc i = true then none else (trE n sc a).bind fun a => (trE n sc i).bind fun i => some (.sub a i)
    | .Attribute a x _ => if (low x && !isCall a) = true then (trE n sc a).bind fun a => some (.att a (code x)) else none
    | _ => none
noncomputable def swp (t : PySem.Expr) (value : PySem.Expr) (sc : Scope) : Option (Option (List Str)) :=
  match swappedStores [t] value { scope := sc, locals := 0, globals := 0, cells := [] } with
  | .pure r => some r
  | _ => none
noncomputable def swpOk (sc : Scope) (ns : List Str) : Bool := ns.all (fun n => okN n && (sc.names.lookup n == some .local)) && decide (ns.map code).Nodup
noncomputable def isComp : PySem.Expr → Bool
  | .ListComp .. => true
  | .SetComp .. => true
  | .DictComp .. => true
  | _ => false
noncomputable def isNm : PySem.Expr → Bool
  | .Name .. => true
  | _ => false
noncomputable def trS : Nat → Scope → PySem.Stmt → Option MS
  | 0, _, _ => none
  | n + 1, sc, s => match s with
    | .Assign [t] e _ => if isComp e = true then (if isNm t = true then (trT n sc t).bind fun t => (trE n sc e).bind fun e => some (.asg t e) else none) else (swp t e sc).bind fun r => match r with
      | none => (trT n sc t).bind fun t => (trE n sc e).bind fun e => some (.asg t e)
      | some ns => if swpOk sc ns = true then (trE n sc e).bind fun e => some (.asg (.tup ((ns.map code).map .nam)) e) else none
    | .AugAssign (.Name x _) op e _ => if okN x = false ∨ sc.names.lookup x ≠ some .local then none else (trOp op).bind fun o => (trE n sc e).bind fun e => some (.aug (code x) o e)
    | .If c a b _ => (trE n sc c).bind fun c => (all? (trS n sc) a).bind fun a => (all? (trS n sc) b).bind fun b => some (.ife c a b)
    | .For t it b [] _ => (trT n sc t).bind fun t => (trE n sc it).bind fun it => (all? (trS n sc) b).bind fun b => some (.for_ t it b)
    | .While c b [] _ => (trE n sc c).bind fun c => (all? (trS n sc) b).bind fun b => some (.whl c b)
    | .Return e _ => (opt? (trE n sc) e).bind fun e => some (.ret e)
    | .Expr e _ => if isComp e = true then none else (trE n sc e).bind fun e => some (.exp e)
    | .Raise (some e) none _ => (trE n sc e).bind fun e => some (.rai e)
    | _ => none
noncomputable def trF (ps : Arguments) (body : List PySem.Stmt) (sc : Scope) : Option MF :=
  (all? (trS 40 sc) body).bind fun b => some ⟨ps.args.map fun a => code a.arg, b⟩
end Mn
end
section
set_option genInjectivity false
set_option genSizeOf false
open PySem
namespace Mn
noncomputable abbrev Loc := List (Nat × MV)
noncomputable def zhh (x : Nat) : Loc → Option MV
  | [] => none
  | (y, v) :: r => cond (y == x) (some v) (zhh x r)
noncomputable def zhi (x : Nat) (v : MV) : Loc → Loc
  | [] => [(x, v)]
  | (y, u) :: r => cond (y == x) ((x, v) :: r) ((y, u) :: zhi x v r)
theorem getL_ite (x y : Nat) (v : MV) (r : Loc) : zhh x ((y, v) :: r) = if y = x then some v else zhh x r := by
  show cond (y == x) _ _ = _
  by_cases h : y = x
  · rw [if_pos h, beq_iff_eq.mpr h]; rfl
  · rw [if_neg h, beq_false_of_ne h]; rfl
theorem setL_ite (x y : Nat) (v u : MV) (r : Loc) : zhi x v ((y, u) :: r) = if y = x then (x, v) :: r else (y, u) :: zhi x v r := by
  show cond (y == x) _ _ = _
  by_cases h : y = x
  · rw [if_pos h, beq_iff_eq.mpr h]; rfl
  · rw [if_neg h, beq_false_of_ne h]; rfl
inductive Out where
  | nxt
  | ret (v : MV)
structure Pg where
  fns : Nat → Option MF
  glb : Nat → Option MV
  meth : Nat → Nat → Option Nat
  
  atr : Nat → Nat → Bool
noncomputable def keyEq : MV → MV → Bool
  | .int a, .int b => decide (a = b)
  | .str a, .str b => Nat.beq a b
  | _, _ => false
noncomputable def isKey : MV → Bool
  | .int _ => true
  | .str _ => true
  | _ => false
noncomputable def sameKind : MV → MV → Bool
  | .int _, .int _ => true
  | .str _, .str _ => true
  | _, _ => false
noncomputable def okKey (k : MV) (es : List (MV × MV)) : Bool := isKey k && es.all fun p => sameKind k p.1
noncomputable def dGet (k : MV) : List (MV × MV) → Option MV
  | [] => none
  | (j, v) :: r => if keyEq j k then some v else dGet k r
noncomputable def dPut (k v : MV) : List (MV × MV) → List (MV × MV)
  | [] => [(k, v)]
  | (j, u) :: r => if keyEq j k then (j, v) :: r else (j, u) :: dPut k v r
noncomputable def feqL (f : MV → MV → Option Bool) : List MV → List MV → Option Bool
  | [], [] => some true
  | [], _ :: _ => some false
  | _ :: _, [] => some false
  | a :: l, b :: r => (f a b).bind fun x => (feqL f l r).bind fun y => some (x && y)
noncomputable def feq : Nat → MV → MV → Option Bool
  | 0, _, _ => none
  | n + 1, v, u => match v with
    | .none => match u with
      | .none => some true
      | .int _ => some false
      | _ => none
    | .int a => match u with
      | .none => some false
      | .int b => some (decide (a = b))
      | .str _ => some false
      | _ => none
    | .bool a => match u with
      | .bool b => some (a == b)
      | _ => none
    | .str a => match u with
      | .str b => some (Nat.beq a b)
      | .int _ => some false
      | _ => none
    | .tup a => match u with
      | .tup b => feqL (feq n) a b
      | _ => none
    | _ => none
noncomputable def kl2 (u : List MV) : MO → Option Bool
  | .list v => if u.length = v.length then feqL (feq 6) u v else some false
  | _ => none
noncomputable def kl1 (H : MH) (b : Nat) : MO → Option Bool
  | .list u => (H.get b).bind (kl2 u)
  | _ => none
noncomputable def meq (H : MH) (v u : MV) : Option Bool := match v with
  | .ref a => match u with
    | .ref b => if a = b then none else (H.get a).bind (kl1 H b)
    | _ => none
  | v => feq 6 v u
noncomputable def numOf : MV → Option Int
  | .int i => some i
  | .bool b => some (if b then 1 else 0)
  | _ => none
noncomputable def lim : Nat := 1048576
noncomputable def newL (H : MH) (vs : List MV) : Option (MV × MH) := if vs.length ≤ lim then some (.ref H.next, H.new (.list vs)) else none
noncomputable def kla : MO → Option (List MV)
  | .list vs => some vs
  | .frz vs => some vs
  | _ => none
noncomputable def listAt (H : MH) (v : MV) : Option (List MV) := match v with
  | .ref k => (H.get k).bind kla
  | _ => none
noncomputable def intOp (op : Op) (a b : Int) : Option Int := match op with
  | .add => some (a + b)
  | .sub => some (a - b)
  | .mul => if a.natAbs < 2 ^ 30 ∧ b.natAbs < 2 ^ 30 then some (a * b) else none
  | .fdiv => if b = 0 ∨ b.natAbs ≥ 2 ^ 30 then none else some (Int.fdiv a b)
  | .mod => if b = 0 then none else some (Int.fmod a b)
  | .shl => if 0 ≤ b ∧ b < 64 ∧ a.natAbs < 2 ^ 60 then some (a * 2 ^ b.toNat) else none
noncomputable def kint (H : MH) (r : Int) : Option (MV × MH) := some (.int r, H)
noncomputable def kad2 (H : MH) (u v : List MV) : Option (MV × MH) := newL H (u ++ v)
noncomputable def kad (H : MH) (j : Nat) (u : List MV) : Option (MV × MH) := (listAt H (.ref j)).bind (kad2 H u)
noncomputable def subB (H : MH) (a b : MV) : Option (MV × MH) := (numOf a).bind fun i => (numOf b).bind fun j => some (.int (i - j), H)
noncomputable def binop (op : Op) (a b : MV) (H : MH) : Option (MV × MH) := match a with
  | .ref i => match b with
    | .ref j => if op = .add then (listAt H (.ref i)).bind (kad H j) else none
    | _ => none
  | .int i => match b with
    | .int j => (intOp op i j).bind (kint H)
    | b => if op = .sub then subB H (.int i) b else none
  | a => if op = .sub then subB H a b else none
noncomputable def anyEq (x : MV) : List MV → Option Bool
  | [] => some false
  | y :: r => (feq 6 y x).bind fun b => (anyEq x r).bind fun c => some (b || c)
noncomputable def kco (x : MV) : MO → Option Bool
  | .dict es => if okKey x es = true then some (dGet x es).isSome else none
  | _ => none
noncomputable def contains (H : MH) (x c : MV) : Option Bool := if isKey x = true then match c with
  | .tup vs => anyEq x vs
  | .ref k => (H.get k).bind (kco x)
  | _ => none
  else none
noncomputable def noBi : MV → Bool
  | .bi _ => false
  | _ => true
noncomputable def isNone : MV → Bool
  | .none => true
  | _ => false
noncomputable def asInt : MV → Option Int
  | .int i => some i
  | _ => none
noncomputable def asRef : MV → Option Nat
  | .ref k => some k
  | _ => none
noncomputable def asTup : MV → Option (List MV)
  | .tup vs => some vs
  | _ => none
noncomputable def dSame : List (MV × MV) → List (MV × MV) → Option Bool
  | [], _ => some true
  | (k, v) :: r, es => (dGet k es).bind fun u => (feq 6 v u).bind fun x => if x = true ∧ isKey k = true then dSame r es else none
noncomputable def sm2 (o o' : MO) : Option Bool := match o with
  | .list u => match o' with
    | .list v => if u.length = v.length then feqL (feq 6) u v else none
    | _ => none
  | .dict es => match o' with
    | .dict fs => if es.length = fs.length ∧ okKey (.str 1) es = true ∧ okKey (.str 1) fs = true then dSame es fs else none
    | _ => none
  | _ => none
noncomputable def sm1 (H : MH) (v u : MV) : Option Bool := (asRef v).bind fun a => (asRef u).bind fun b => if a = b then none else (H.get a).bind fun o => (H.get b).bind (sm2 o)
noncomputable def smL (H : MH) : List MV → List MV → Option Bool
  | [], [] => some true
  | a :: l, b :: r => (sm1 H a b).bind fun x => if x = true then smL H l r else none
  | _, _ => none
noncomputable def tne (H : MH) (v u : MV) : Option Bool := match v with
  | .tup a => (asTup u).bind fun b => (smL H a b).bind fun _ => some false
  | v => (meq H v u).bind fun x => some (!x)
noncomputable def asStr : MV → Option Nat
  | .str k => some k
  | _ => none
noncomputable def two {α : Type} (as : List MV) (k : MV → MV → Option α) : Option α := match as with
  | [a, b] => k a b
  | _ => none
noncomputable def int2 (f : Int → Int → Bool) (a b : MV) : Option Bool := (asInt a).bind fun i => (asInt b).bind fun j => some (f i j)
noncomputable def isNo (a b : MV) : Option Bool := match b with
  | .none => if noBi a = true then some (isNone a) else none
  | _ => none
noncomputable def compare (op : Co) (a b : MV) (H : MH) : Option Bool := match op with
  | .eq => meq H a b
  | .ne => tne H a b
  | .lt => int2 (fun i j => decide (i < j)) a b
  | .le => int2 (fun i j => decide (i ≤ j)) a b
  | .gt => int2 (fun i j => decide (i > j)) a b
  | .ge => int2 (fun i j => decide (i ≥ j)) a b
  | .is => isNo a b
  | .isn => (isNo a b).bind fun x => some (!x)
  | .inn => contains H a b
  | .nin => (contains H a b).bind fun x => some (!x)
noncomputable def truth (v : MV) (_ : MH) : Option Bool := match v with
  | .bool b => some b
  | _ => none
noncomputable def idx (vs : List MV) (i : Int) : Option MV := if 0 ≤ i ∧ i < 1073741824 then vs[i.toNat]? else none
noncomputable def idxL (vs : List MV) (i : Int) : Option MV := if i = -1 then vs.getLast? else idx vs i
noncomputable def kit (i : MV) : MO → Option MV
  | .list vs => (asInt i).bind (idxL vs)
  | .frz vs => (asInt i).bind (idx vs)
  | .dict es => if okKey i es = true then dGet i es else none
  | _ => none
noncomputable def item (H : MH) (o i : MV) : Option MV := match o with
  | .tup vs => (asInt i).bind (idx vs)
  | .ref k => (H.get k).bind (kit i)
  | _ => none
noncomputable def kse (H : MH) (k : Nat) (i v : MV) : MO → Option MH
  | .list vs => (asInt i).bind fun i => if 0 ≤ i ∧ i < 1073741824 ∧ i.toNat < vs.length then some (H.upd k (.list (vs.set i.toNat v))) else none
  | .dict es => if okKey i es = true ∧ es.length < lim then some (H.upd k (.dict (dPut i v es))) else none
  | _ => none
noncomputable def setItem (H : MH) (o i v : MV) : Option MH := match o with
  | .ref k => (H.get k).bind (kse H k i v)
  | _ => none
noncomputable def cut (vs : List MV) (lo hi : Option MV) : Option (List MV) := match lo with
  | none => match hi with
    | some v => (asInt v).bind fun j => if 0 ≤ j then some (vs.take j.toNat) else none
    | none => none
  | some v => match hi with
    | some _ => none
    | none => (asInt v).bind fun i => if 0 ≤ i then some (vs.drop i.toNat) else none
noncomputable def ksx (H : MH) (lo hi : Option MV) (vs : List MV) : Option (MV × MH) := if vs.length ≤ lim then (cut vs lo hi).bind (newL H) else none
noncomputable def slice (H : MH) (o : MV) (lo hi : Option MV) : Option (MV × MH) := (listAt H o).bind (ksx H lo hi)
noncomputable def katd2 (c d : Nat) : MO → Option (Nat × Nat × List (MV × MV))
  | .dict es => some (c, d, es)
  | _ => none
noncomputable def katd (H : MH) : MO → Option (Nat × Nat × List (MV × MV))
  | .inst c d => (H.get d).bind (katd2 c d)
  | _ => none
noncomputable def instAt (H : MH) (o : MV) : Option (Nat × Nat × List (MV × MV)) := match o with
  | .ref k => (H.get k).bind (katd H)
  | _ => none
noncomputable def refOf : MV → Nat
  | .ref k => k
  | _ => 0
noncomputable def katt (P : Pg) (k x : Nat) (q : Nat × Nat × List (MV × MV)) : Option MV := if okKey (.str x) q.2.2 = true then (if P.atr q.1 x = true then (dGet (.str x) q.2.2).bind fun v => if noBi v = true then some v else none
  else if dGet (.str x) q.2.2 = none then (P.meth q.1 x).bind fun f => some (.bm k f) else none) else none
noncomputable def attr (P : Pg) (H : MH) (o : MV) (x : Nat) : Option MV := (instAt H o).bind (katt P (refOf o) x)
noncomputable def ksa (P : Pg) (H : MH) (x : Nat) (v : MV) (q : Nat × Nat × List (MV × MV)) : Option MH := if P.atr q.1 x = true ∧ okKey (.str x) q.2.2 = true ∧ q.2.2.length < 100 then some (H.upd q.2.1 (.dict (dPut (.str x) v q.2.2))) else none
noncomputable def setAttr (P : Pg) (H : MH) (o : MV) (x : Nat) (v : MV) : Option MH := (instAt H o).bind (ksa P H x v)
noncomputable def okFn (P : Pg) : MV → Bool
  | .fn f => (P.fns f).isSome
  | .bm _ f => (P.fns f).isSome
  | .cls c => (P.meth c (cd "__init__")).isSome
  | .bi _ => true
  | _ => false
inductive It where
  | lst (k i : Nat)
  | tup (vs : List MV)
  | rng (i : Int) (step : Int) (n : Nat)
  | enu (i k : Nat)
noncomputable def It.next (H : MH) : It → Option (Option (MV × It))
  | .lst k i => (listAt H (.ref k)).bind fun vs => some (vs[i]?.map fun v => (v, .lst k (i + 1)))
  | .tup [] => some none
  | .tup (v :: r) => some (some (v, .tup r))
  | .rng _ _ 0 => some none
  | .rng i s (n + 1) => some (some (.int i, .rng (i + s) s n))
  | .enu i k => (listAt H (.ref k)).bind fun vs => some (vs[i]?.map fun v => (.tup [.int i, v], .enu (i + 1) k))
noncomputable def kio (k : Nat) (_ : List MV) : Option It := some (.lst k 0)
noncomputable def iterOf (H : MH) : MV → Option It
  | .tup vs => some (.tup vs)
  | .ref k => (listAt H (.ref k)).bind (kio k)
  | _ => none
noncomputable def tupOk : MT → It → Bool
  | .tup _, .lst _ _ => true
  | .tup _, .enu _ _ => true
  | .nam _, .enu _ _ => false
  | .nam _, _ => true
  | _, _ => false
noncomputable def near (i : Int) : Bool := decide (i.natAbs < 1073741824)
noncomputable def intsOf : List MV → Option (List Int)
  | [] => some []
  | a :: r => (asInt a).bind fun i => (intsOf r).bind fun l => some (i :: l)
noncomputable def rangeI : List Int → Option It
  | [b] => if near b = true then some (.rng 0 1 b.toNat) else none
  | [a, b] => if (near a && near b) = true then some (.rng a 1 (b - a).toNat) else none
  | [a, b, c] => if (near a && near b && decide (c = -1)) = true then some (.rng a (-1) (a - b).toNat) else none
  | _ => none
noncomputable def rangeOf (vs : List MV) : Option It := (intsOf vs).bind rangeI
noncomputable def pairsOf : List MV → Option (List (MV × MV))
  | [] => some []
  | a :: r => (asTup a).bind fun p => two p fun k v => (asStr k).bind fun k => (pairsOf r).bind fun l => some ((.str k, v) :: l)
noncomputable def dictOf (l : List (MV × MV)) : List (MV × MV) := l.foldl (fun es p => dPut p.1 p.2 es) []
noncomputable def kle (H : MH) : MO → Option (MV × MH)
  | .list vs => if vs.length ≤ lim then some (.int vs.length, H) else none
  | _ => none
noncomputable def kdi (H : MH) : MO → Option (MV × MH)
  | .list vs => (pairsOf vs).bind fun l => if l.length < 1000 then some (.ref H.next, H.new (.dict (dictOf l))) else none
  | _ => none
noncomputable def one {α : Type} (as : List MV) (k : MV → Option α) : Option α := match as with
  | [a] => k a
  | _ => none
noncomputable def asBi : MV → Option BI
  | .bi b => some b
  | _ => none
noncomputable def asGlb : MX → Option Nat
  | .glb f => some f
  | _ => none
noncomputable def isTy : MV → Bool
  | .bi .tstr => true
  | .bi .ttup => true
  | _ => false
noncomputable def callB (b : BI) (as : List MV) (H : MH) : Option (MV × MH) := match b with
  | .len => one as fun a => (asRef a).bind fun k => (H.get k).bind (kle H)
  | .abs => one as fun a => (asInt a).bind fun i => some (.int i.natAbs, H)
  | .isinst => two as fun a c => (asInt a).bind fun _ => if isTy c = true then some (.bool false, H) else none
  | .max => two as fun a c => (asInt a).bind fun i => (asInt c).bind fun j => some (.int (if j > i then j else i), H)
  | .dict => one as fun a => (asRef a).bind fun k => (H.get k).bind (kdi H)
  | _ => none
noncomputable def callL (H : MH) (k : Nat) (vs : List MV) (x : Nat) (as : List MV) : Option (MV × MH) :=
  if x = cd "append" then one as fun v => if vs.length < lim then some (.none, H.upd k (.list (vs ++ [v]))) else none
  else if x = cd "pop" ∧ as = [] then vs.getLast?.bind fun v => if vs.length < lim then some (v, H.upd k (.list vs.dropLast)) else none
  else none
noncomputable def callD (H : MH) (es : List (MV × MV)) (x : Nat) (as : List MV) : Option (MV × MH) :=
  if x = cd "get" then match as with
    | [v] => if okKey v es = true then some ((dGet v es).getD .none, H) else none
    | [v, d] => if okKey v es = true then some ((dGet v es).getD d, H) else none
    | _ => none
  else none
noncomputable def CT.mt : CT → MT
  | .one x => .nam x
  | .two x y => .tup [.nam x, .nam y]
noncomputable def ubnd (t : CT) (L : Loc) : Bool := (cd ".0" :: t.codes).all fun x => (zhh x L).isNone
structure Ev where
  x : MX → Loc → MH → Option (MV × MH)
  t : MX → Loc → MH → Option (Bool × MH)
  c : MV → List MV → MH → Option (MV × MH)
  s : MS → Loc → MH → Option (Out × Loc × MH)
  l : MT → It → List MS → Loc → MH → Option (Out × Loc × MH)
  k : MX → CT → List MX → It → List MV → Loc → MH → Option (List MV × MH)
noncomputable def Ev.zero : Ev := ⟨fun _ _ _ => .none, fun _ _ _ => .none, fun _ _ _ => .none, fun _ _ _ => .none, fun _ _ _ _ _ => .none, fun _ _ _ _ _ _ _ => .none⟩
section
variable (P : Pg) (E : Ev) (E' : Unit → Ev)
noncomputable def evs : List MX → Loc → MH → Option (List MV × MH)
  | [], _, H => some ([], H)
  | e :: r, L, H => (E.x e L H).bind fun a => (evs r L a.2).bind fun b => some (a.1 :: b.1, b.2)
noncomputable def evo : Option MX → Loc → MH → Option (Option MV × MH)
  | none, _, H => some (none, H)
  | some e, L, H => (E.x e L H).bind fun a => some (some a.1, a.2)
noncomputable def bops (conj : Bool) : List MX → Loc → MH → Option (MV × MH)
  | [], _, _ => none
  | [e], L, H => E.x e L H
  | e :: r, L, H => (E.x e L H).bind fun a => (truth a.1 a.2).bind fun b => if b = conj then bops conj r L a.2 else some a
noncomputable def tops (conj : Bool) : List MX → Loc → MH → Option (Bool × MH)
  | [], _, H => some (conj, H)
  | e :: r, L, H => (E.t e L H).bind fun a => if a.1 = conj then tops conj r L a.2 else some (a.1, a.2)
noncomputable def kie2 (k : Nat) (H : MH) : MO → Option (It × MH)
  | .list _ => some (.enu 0 k, H)
  | _ => none
noncomputable def evP (it : MX) (L : Loc) (H : MH) : Option (It × MH) := (E.x it L H).bind fun a => (iterOf a.2 a.1).bind fun i => some (i, a.2)
noncomputable def evG (as : List MX) (L : Loc) (H : MH) (b : BI) : Option (It × MH) := match b with
  | .range => (evs E as L H).bind fun a => (rangeOf a.1).bind fun i => some (i, a.2)
  | .enum => (evs E as L H).bind fun a => one a.1 fun v => (asRef v).bind fun k => (a.2.get k).bind (kie2 k a.2)
  | _ => none
noncomputable def evI (it : MX) (L : Loc) (H : MH) : Option (It × MH) := match it with
  | .call f as => (asGlb f).bind fun g => (P.glb g).bind fun v => (asBi v).bind (evG E as L H)
  | it => evP E it L H
mutual
noncomputable def put : MT → MV → Loc → MH → Option (Loc × MH)
  | .nam x, v, L, H => some (zhi x v L, H)
  | .tup ts, v, L, H => (asTup v).bind fun vs => puts ts vs L H
  | .sub a i, v, L, H => (E.x a L H).bind fun o => (E.x i L o.2).bind fun j => (setItem j.2 o.1 j.1 v).bind fun H' => some (L, H')
  | .att a x, v, L, H => (E.x a L H).bind fun o => (setAttr P o.2 o.1 x v).bind fun H' => some (L, H')
noncomputable def puts : List MT → List MV → Loc → MH → Option (Loc × MH)
  | [], [], L, H => some (L, H)
  | t :: ts, v :: vs, L, H => (put t v L H).bind fun a => puts ts vs a.1 a.2
  | _, _, _, _ => none
end
noncomputable def kte (k : Loc → MH → Option (Bool × MH)) (L : Loc) (a : Bool × MH) : Option (Bool × MH) := match a.1 with
  | true => k L a.2
  | false => some (false, a.2)
noncomputable def tests : List MX → Loc → MH → Option (Bool × MH)
  | [], _, H => some (true, H)
  | e :: r, L, H => (E.t e L H).bind (kte (tests r) L)
noncomputable def kek (k : List MV → MH → Option (List MV × MH)) (acc : List MV) (u : MV × MH) : Option (List MV × MH) := if acc.length < lim then k (acc ++ [u.1]) u.2 else none
noncomputable def ktk (e : MX) (k : List MV → MH → Option (List MV × MH)) (acc : List MV) (L : Loc) (b : Bool × MH) : Option (List MV × MH) := match b.1 with
  | true => (E.x e L b.2).bind (kek k acc)
  | false => k acc b.2
noncomputable def knl (r : List MV × MH) : Option (MV × MH) := newL r.2 r.1
noncomputable def evC (e : MX) (t : CT) (it : MX) (ifs : List MX) (L : Loc) (H : MH) : Option (MV × MH) := (evI P E it L H).bind fun i => if (ubnd t L && tupOk t.mt i.1) = true then (E.k e t ifs i.1 [] L i.2).bind knl else none
noncomputable def kst (k : Loc → MH → Option (Out × Loc × MH)) : Out × Loc × MH → Option (Out × Loc × MH) := fun a => match a.1 with
  | .nxt => k a.2.1 a.2.2
  | .ret v => some (.ret v, a.2)
noncomputable def stmts : List MS → Loc → MH → Option (Out × Loc × MH)
  | [], L, H => some (.nxt, L, H)
  | s :: r, L, H => (E.s s L H).bind (kst (stmts r))
noncomputable def krF (a : Out × Loc × MH) : Option (MV × MH) := match a.1 with
  | .ret v => some (v, a.2.2)
  | .nxt => some (.none, a.2.2)
noncomputable def callF (f : Nat) (as : List MV) (H : MH) : Option (MV × MH) := (P.fns f).bind fun d =>
  if d.params.length = as.length ∧ d.body.isEmpty = false then (stmts E d.body (d.params.zip as) H).bind krF else none
noncomputable def kin (k : Nat) (r : MV × MH) : Option (MV × MH) := match r.1 with | .none => some (.ref k, r.2) | _ => none
noncomputable def kmi (as : List MX) (L : Loc) (k : Nat) (x : Nat) (H : MH) (q : Nat × Nat × List (MV × MV)) : Option (MV × MH) := if okKey (.str x) q.2.2 = true ∧ dGet (.str x) q.2.2 = none then (P.meth q.1 x).bind fun f => if (P.fns f).isSome = true then (evs E as L H).bind fun v => E.c (.fn f) (.ref k :: v.1) v.2 else none else none
noncomputable def kml2 (k x : Nat) (vs : List MV) (H : MH) : MO → Option (MV × MH)
  | .list vs' => callL H k vs' x vs
  | _ => none
noncomputable def kmd2 (x : Nat) (vs : List MV) (H : MH) : MO → Option (MV × MH)
  | .dict es => callD H es x vs
  | _ => none
noncomputable def kmo (x : Nat) (as : List MX) (L : Loc) (k : Nat) (H : MH) : MO → Option (MV × MH)
  | .inst c d => (katd H (.inst c d)).bind (kmi P E as L k x H)
  | .list _ => (evs E as L H).bind fun v => (v.2.get k).bind (kml2 k x v.1 v.2)
  | .dict _ => (evs E as L H).bind fun v => (v.2.get k).bind (kmd2 x v.1 v.2)
  | .frz _ => none
noncomputable def kau2 (x : Nat) (op : Op) (a : MV) (L : Loc) (u : MV × MH) : Option (Out × Loc × MH) := (asInt a).bind fun i => (asInt u.1).bind fun j => if op = .add then some (.nxt, zhi x (.int (i + j)) L, u.2) else none
noncomputable def klo3 (t : MT) (it : It) (b : List MS) : Out × Loc × MH → Option (Out × Loc × MH) := kst (E.l t it b)
noncomputable def Ev.step : Ev where
  x e L H := match e with
    | .cst v => some (v, H)
    | .loc x => (zhh x L).bind fun v => some (v, H)
    | .glb x => (P.glb x).bind fun v => some (v, H)
    | .bin op a b => (E.x a L H).bind fun u => (E.x b L u.2).bind fun v => binop op u.1 v.1 v.2
    | .neg a => (E.x a L H).bind fun u => (asInt u.1).bind fun i => some (.int (-i), u.2)
    | .not a => (E.x a L H).bind fun u => (truth u.1 u.2).bind fun b => some (.bool (!b), u.2)
    | .bop c es => bops E c es L H
    | .cmp a op b => (E.x a L H).bind fun u => (E.x b L u.2).bind fun v => (compare op u.1 v.1 v.2).bind fun r => some (.bool r, v.2)
    | .cmp2 a op b op' c => (E.x a L H).bind fun u => (E.x b L u.2).bind fun v => (compare op u.1 v.1 v.2).bind fun r => match r with
      | true => (E.x c L v.2).bind fun w => (compare op' v.1 w.1 w.2).bind fun r' => some (.bool r', w.2)
      | false => some (.bool false, v.2)
    | .ife c a b => (E.t c L H).bind fun u => match u.1 with
      | true => E.x a L u.2
      | false => E.x b L u.2
    | .att a x => (E.x a L H).bind fun u => (attr P u.2 u.1 x).bind fun v => some (v, u.2)
    | .sub a i => (E.x a L H).bind fun u => (E.x i L u.2).bind fun v => (item v.2 u.1 v.1).bind fun r => some (r, v.2)
    | .slc a lo hi => (E.x a L H).bind fun u => (evo E lo L u.2).bind fun v => (evo E hi L v.2).bind fun w => slice w.2 u.1 v.1 w.1
    | .call f as => (E.x f L H).bind fun u => if okFn P u.1 = true then (evs E as L u.2).bind fun v => E.c u.1 v.1 v.2 else none
    | .mth o x as => (E.x o L H).bind fun u => (asRef u.1).bind fun k => (u.2.get k).bind (kmo P E x as L k u.2)
    | .tup es => (evs E es L H).bind fun v => if v.1.length ≤ lim then some (.tup v.1, v.2) else none
    | .lst es => (evs E es L H).bind fun v => newL v.2 v.1
    | .dct => some (.ref H.next, H.new (.dict []))
    | .cmpr e t it ifs => evC P E e t it ifs L H
  t e L H := match e with
    | .not a => (E.t a L H).bind fun u => some (!u.1, u.2)
    | .bop c es => tops E c es L H
    | .ife c a b => (E.t c L H).bind fun u => match u.1 with
      | true => E.t a L u.2
      | false => E.t b L u.2
    | .cmp a op b => (E.x a L H).bind fun u => (E.x b L u.2).bind fun v => (compare op u.1 v.1 v.2).bind fun r => some (r, v.2)
    | .cmp2 a op b op' c => (E.x a L H).bind fun u => (E.x b L u.2).bind fun v => (compare op u.1 v.1 v.2).bind fun r => match r with
      | true => (E.x c L v.2).bind fun w => (compare op' v.1 w.1 w.2).bind fun r' => some (r', w.2)
      | false => some (false, v.2)
    | e => (E.x e L H).bind fun u => (truth u.1 u.2).bind fun b => some (b, u.2)
  c f as H := match f with
    | .fn f => callF P (E' ()) f as H
    | .bm k f => callF P (E' ()) f (.ref k :: as) H
    | .bi b => callB b as H
    | .cls c => (P.meth c (cd "__init__")).bind fun f => (callF P (E' ()) f (.ref (H.next + 1) :: as) ((H.new (.dict [])).new (.inst c H.next))).bind (kin (H.next + 1))
    | _ => none
  s st L H := match st with
    | .asg t e => (E.x e L H).bind fun u => (put P E t u.1 L u.2).bind fun r => some (.nxt, r.1, r.2)
    | .aug x op e => (zhh x L).bind fun a => (E.x e L H).bind (kau2 x op a L)
    | .ife c a b => (E.t c L H).bind fun u => match u.1 with
      | true => stmts E a L u.2
      | false => stmts E b L u.2
    | .for_ t it b => (evI P E it L H).bind fun i => if tupOk t i.1 = true then E.l t i.1 b L i.2 else none
    | .whl c b => (E.t c L H).bind fun u => match u.1 with
      | true => (stmts E b L u.2).bind (kst (E.s (.whl c b)))
      | false => some (.nxt, L, u.2)
    | .ret none => some (.ret .none, L, H)
    | .ret (some e) => (E.x e L H).bind fun u => some (.ret u.1, L, u.2)
    | .exp e => (E.x e L H).bind fun u => some (.nxt, L, u.2)
    | .rai _ => none
  l t it b L H := (it.next H).bind fun r => match r with
    | none => some (.nxt, L, H)
    | some (v, it') => (put P E t v L H).bind fun q => (stmts E b q.1 q.2).bind (klo3 E t it' b)
  k e t ifs it acc L H := (it.next H).bind fun r => match r with
    | none => some (acc, H)
    | some (v, it') => (put P E t.mt v L H).bind fun q => (tests E ifs q.1 q.2).bind (ktk E e (fun a h => E.k e t ifs it' a q.1 h) acc q.1)
end
noncomputable def ev (P : Pg) : Nat → Nat → Ev
  | 0 => fun _ => Ev.zero
  | n + 1 => fun d => Ev.step P (ev P n d) (fun _ => match d with | 0 => Ev.zero | d + 1 => ev P n d)
theorem bnd {α β : Type} {o : Option α} {f : α → Option β} {r : β} {C : Prop} (e : o.bind f = some r) (k : ∀ a, o = some a → f a = some r → C) : C := by
  obtain ⟨a, e1, e⟩ := Option.bind_eq_some_iff.mp e
  exact k a e1 e
theorem bnd2 {α γ β : Type} {o : Option (α × γ)} {f : α × γ → Option β} {r : β} {C : Prop} (e : o.bind f = some r) (k : ∀ a c, o = some (a, c) → f (a, c) = some r → C) : C := by
  obtain ⟨a, e1, e⟩ := Option.bind_eq_some_iff.mp e
  exact k a.1 a.2 e1 e
theorem bnd3 {α γ δ β : Type} {o : Option (α × γ × δ)} {f : α × γ × δ → Option β} {r : β} {C : Prop} (e : o.bind f = some r) (k : ∀ a c d, o = some (a, c, d) → f (a, c, d) = some r → C) : C := by
  obtain ⟨a, e1, e⟩ := Option.bind_eq_some_iff.mp e
  exact k a.1 a.2.1 a.2.2 e1 e
theorem gd {α : Type} {c : Prop} [Decidable c] {o : Option α} {r : α} {C : Prop} (e : (if c then o else none) = some r) (k : c → o = some r → C) : C := by
  by_cases h : c
  · rw [if_pos h] at e; exact k h e
  · rw [if_neg h] at e; cases e
theorem one_inv {α : Type} {as : List MV} {f : MV → Option α} {r : α} (e : one as f = some r) : ∃ a, as = [a] ∧ f a = some r := by
  rcases as with _ | ⟨a, _ | ⟨b, as⟩⟩
  · cases e
  · exact ⟨a, rfl, e⟩
  · cases e
theorem two_inv {α : Type} {as : List MV} {f : MV → MV → Option α} {r : α} (e : two as f = some r) : ∃ a b, as = [a, b] ∧ f a b = some r := by
  rcases as with _ | ⟨a, _ | ⟨b, _ | ⟨c, as⟩⟩⟩
  · cases e
  · cases e
  · exact ⟨a, b, rfl, e⟩
  · cases e
theorem asInt_inv {v : MV} {i : Int} (e : asInt v = some i) : v = .int i := by
  cases v <;> first | (cases e; done) | exact congrArg MV.int (Option.some.inj e)
theorem asRef_inv {v : MV} {k : Nat} (e : asRef v = some k) : v = .ref k := by
  cases v <;> first | (cases e; done) | exact congrArg MV.ref (Option.some.inj e)
theorem asTup_inv {v : MV} {k : List MV} (e : asTup v = some k) : v = .tup k := by
  cases v <;> first | (cases e; done) | exact congrArg MV.tup (Option.some.inj e)
theorem asStr_inv {v : MV} {k : Nat} (e : asStr v = some k) : v = .str k := by
  cases v <;> first | (cases e; done) | exact congrArg MV.str (Option.some.inj e)
theorem asBi_inv {v : MV} {k : BI} (e : asBi v = some k) : v = .bi k := by
  cases v <;> first | (cases e; done) | exact congrArg MV.bi (Option.some.inj e)
theorem asGlb_inv {v : MX} {k : Nat} (e : asGlb v = some k) : v = .glb k := by
  cases v <;> first | (cases e; done) | exact congrArg MX.glb (Option.some.inj e)
end Mn
end
section
set_option maxRecDepth 100000
set_option genInjectivity false
set_option genSizeOf false
namespace Mn
open PySem PySem.W PyProof.Rows PySem.Calls
structure Ad where
  fa : Nat → Addr
  ca : Nat → Addr
noncomputable def biV : BI → Value
  | .len => .builtin "len" | .abs => .builtin "abs" | .range => .type "range" | .isinst => .builtin "isinstance" | .enum => .type "enumerate"
  | .dict => .type "dict"  | .max => .builtin "max" | .tstr => .type "str" | .ttup => .type "tuple"
noncomputable def okS (s : Str) : Prop := ∀ c ∈ s.cps.toList, c < 256
mutual
inductive VR (D : Ad) (adr : List Addr) (h : Heap) : MV → Value → Prop
  | none : VR D adr h .none .none
  | bool (b : Bool) : VR D adr h (.bool b) (.bool b)
  | int (i : Int) (t : Tok) : VR D adr h (.int i) (.int i t)
  | str (s : Str) (t : Tok) (ok : okS s) (n : Nat) (e : n = code s) : VR D adr h (.str n) (.str s t)
  | tup (vs : List MV) (a : Addr) (ws : Array Value) (ht : h.IsTuple a ws) (hv : VRs D adr h vs ws.toList) : VR D adr h (.tup vs) (.ref a)
  | ref (k : Nat) (a : Addr) (e : adr[k]? = some a) : VR D adr h (.ref k) (.ref a)
  | fn (f : Nat) : VR D adr h (.fn f) (.ref (D.fa f))
  | cls (c : Nat) : VR D adr h (.cls c) (.ref (D.ca c))
  | bm (k f : Nat) (x a : Addr) (e : adr[k]? = some x) (hm : h.get? a = some (methodObj (.ref (D.fa f)) (.ref x))) : VR D adr h (.bm k f) (.ref a)
  | bi (b : BI) (u : Value) (e : u = biV b) : VR D adr h (.bi b) u
inductive VRs (D : Ad) (adr : List Addr) (h : Heap) : List MV → List Value → Prop
  | nil : VRs D adr h [] []
  | cons {v : MV} {u : Value} {vs : List MV} {us : List Value} (hv : VR D adr h v u) (hs : VRs D adr h vs us) : VRs D adr h (v :: vs) (u :: us)
end
inductive ER {α : Type} (D : Ad) (adr : List Addr) (h : Heap) (R : MV → α → Prop) : List (MV × MV) → List (α × Value) → Prop
  | nil : ER D adr h R [] []
  | cons {k v : MV} {a : α} {u : Value} {es : List (MV × MV)} {kvs : List (α × Value)} (hk : R k a) (hv : VR D adr h v u) (hs : ER D adr h R es kvs) : ER D adr h R ((k, v) :: es) ((a, u) :: kvs)
noncomputable def SK (k : MV) (s : Str) : Prop := okS s ∧ k = .str (code s)
noncomputable def IK (k : MV) (i : Int) : Prop := k = .int i
noncomputable def Off (B : Heap) (a : Addr) : Prop := B.get? a = none ∧ a ≠ sysModules
inductive OR (prog : Program) (w : World) (B : Heap) (D : Ad) (adr : List Addr) (h : Heap) : MO → Addr → Prop
  | list (vs : List MV) (a : Addr) (ws : Array Value) (hl : h.PlainList a ws) (hv : VRs D adr h vs ws.toList) (hb : Off B a) : OR prog w B D adr h (.list vs) a
  | frz (vs : List MV) (a : Addr) (ws : Array Value) (hl : h.IsList a ws) (hv : VRs D adr h vs ws.toList) : OR prog w B D adr h (.frz vs) a
  | dictS (es : List (MV × MV)) (a : Addr) (kvs : List (Str × Value)) (hd : h.DictOf (strKind prog w) a kvs) (he : ER D adr h SK es kvs) (hb : Off B a) : OR prog w B D adr h (.dict es) a
  | dictI (es : List (MV × MV)) (a : Addr) (kvs : List (Int × Value)) (hd : h.DictOf (intKind prog w) a kvs) (he : ER D adr h IK es kvs) (hb : Off B a) : OR prog w B D adr h (.dict es) a
  | inst (c d : Nat) (a dx : Addr) (e : adr[d]? = some dx) (ho : h.get? a = some (instObj (D.ca c) dx)) : OR prog w B D adr h (.inst c d) a
noncomputable def own (env : Env) : List Addr := env.locals :: env.cells.map (·.2)
structure LR (D : Ad) (adr : List Addr) (h : Heap) (env : Env) (ρ : Loc) : Prop where
  ns : ∃ m : Str → Option Value, h.Ns env.locals m ∧ ∀ s v, okS s → zhh (code s) ρ = some v → env.kindOf s = some .local → ∃ u, m s = some u ∧ VR D adr h v u
  cl : ∀ n c, env.cells.lookup n = some c → ∃ v, h.IsCell c v
  cv : ∀ s v, okS s → zhh (code s) ρ = some v → env.kindOf s = some .cell → ∃ c u, env.cells.lookup s = some c ∧ h.IsCell c (some u) ∧ VR D adr h v u
structure SR (prog : Program) (w : World) (B : Heap) (D : Ad) (adr : List Addr) (H : MH) (h : Heap) : Prop where
  base : ∀ b o, B.get? b = some o → h.get? b = some o
  len : adr.length = H.next
  nd : adr.Nodup
  obj : ∀ k o, H.get k = some o → ∃ a, adr[k]? = some a ∧ OR prog w B D adr h o a
  full : ∀ k, k < H.next → (H.get k).isSome = true
  st : ∃ o, B.get? cStatics = some o
structure EnvOk (B : Heap) (adr : List Addr) (env : Env) : Prop where
  kind : env.scope.kind = .function
  glob : env.globals = mainGlobals
  blt : env.builtins = builtinsNs
  nd : (own env).Nodup
  names : (env.cells.map (·.1)).Nodup
  offA : ∀ a ∈ own env, a ∉ adr
  offB : ∀ a ∈ own env, B.get? a = none
  held : ∀ s, env.kindOf s = some .cell → ∃ c, env.cells.lookup s = some c
structure Kp (adr : List Addr) (env : Env) (h h' : Heap) : Prop where
  keep : ∀ b o, h.get? b = some o → b ∉ adr → b ∉ own env → h'.get? b = some o
  live : ∀ b, (h.get? b).isSome = true → (h'.get? b).isSome = true
theorem Kp.refl (adr : List Addr) (env : Env) (h : Heap) : Kp adr env h h := ⟨fun _ _ e _ _ => e, fun _ e => e⟩
noncomputable def VRI (D : Ad) (adr : List Addr) (h : Heap) (v : MV) (u : Value) : Prop := match v with
  | .none => u = .none
  | .bool b => u = .bool b
  | .int i => ∃ t, u = .int i t
  | .str n => ∃ s t, okS s ∧ n = code s ∧ u = .str s t
  | .tup vs => ∃ a ws, u = .ref a ∧ h.IsTuple a ws ∧ VRs D adr h vs ws.toList
  | .ref k => ∃ a, u = .ref a ∧ adr[k]? = some a
  | .fn f => u = .ref (D.fa f)
  | .cls c => u = .ref (D.ca c)
  | .bm k f => ∃ x a, u = .ref a ∧ adr[k]? = some x ∧ h.get? a = some (methodObj (.ref (D.fa f)) (.ref x))
  | .bi b => u = biV b
theorem VR.inv {D : Ad} {adr : List Addr} {h : Heap} {v : MV} {u : Value} (x : VR D adr h v u) : VRI D adr h v u := by
  cases x with
  | none => exact rfl
  | bool _ => exact rfl
  | int _ t => exact ⟨t, rfl⟩
  | str s t ok _ e => exact ⟨s, t, ok, e, rfl⟩
  | tup _ a ws ht hv => exact ⟨a, ws, rfl, ht, hv⟩
  | ref _ a e => exact ⟨a, rfl, e⟩
  | fn _ => exact rfl
  | cls _ => exact rfl
  | bm _ _ x a e hm => exact ⟨x, a, rfl, e, hm⟩
  | bi _ _ e => exact e
noncomputable def VRsI (D : Ad) (adr : List Addr) (h : Heap) (vs : List MV) (us : List Value) : Prop := match vs with
  | [] => us = []
  | v :: vs => ∃ u r, us = u :: r ∧ VR D adr h v u ∧ VRs D adr h vs r
theorem VRs.inv {D : Ad} {adr : List Addr} {h : Heap} {vs : List MV} {us : List Value} (x : VRs D adr h vs us) : VRsI D adr h vs us := by
  cases x with
  | nil => exact rfl
  | cons hv hs => exact ⟨_, _, rfl, hv, hs⟩
theorem VRs.inv1 {D : Ad} {adr : List Addr} {h : Heap} {v : MV} {us : List Value} (x : VRs D adr h [v] us) : ∃ u, us = [u] ∧ VR D adr h v u := by
  obtain ⟨u, r, rfl, hv, hs⟩ := x.inv
  obtain rfl : r = [] := hs.inv
  exact ⟨u, rfl, hv⟩
theorem VRs.inv2 {D : Ad} {adr : List Addr} {h : Heap} {v v' : MV} {us : List Value} (x : VRs D adr h [v, v'] us) : ∃ u u', us = [u, u'] ∧ VR D adr h v u ∧ VR D adr h v' u' := by
  obtain ⟨u, r, rfl, hv, hs⟩ := x.inv
  obtain ⟨u', rfl, hv'⟩ := hs.inv1
  exact ⟨u, u', rfl, hv, hv'⟩
noncomputable def ERI {α : Type} (D : Ad) (adr : List Addr) (h : Heap) (R : MV → α → Prop) (es : List (MV × MV)) (kvs : List (α × Value)) : Prop := match es with
  | [] => kvs = []
  | p :: es => ∃ a u r, kvs = (a, u) :: r ∧ R p.1 a ∧ VR D adr h p.2 u ∧ ER D adr h R es r
theorem ER.inv {α : Type} {D : Ad} {adr : List Addr} {h : Heap} {R : MV → α → Prop} {es : List (MV × MV)} {kvs : List (α × Value)} (x : ER D adr h R es kvs) : ERI D adr h R es kvs := by
  cases x with
  | nil => exact rfl
  | cons hk hv hs => exact ⟨_, _, _, rfl, hk, hv, hs⟩
noncomputable def ORI (prog : Program) (w : World) (B : Heap) (D : Ad) (adr : List Addr) (h : Heap) (o : MO) (a : Addr) : Prop := match o with
  | .list vs => ∃ ws, h.PlainList a ws ∧ VRs D adr h vs ws.toList ∧ Off B a
  | .frz vs => ∃ ws, h.IsList a ws ∧ VRs D adr h vs ws.toList
  | .dict es => ((∃ kvs, h.DictOf (strKind prog w) a kvs ∧ ER D adr h SK es kvs) ∨ ∃ kvs, h.DictOf (intKind prog w) a kvs ∧ ER D adr h IK es kvs) ∧ Off B a
  | .inst c d => ∃ dx, adr[d]? = some dx ∧ h.get? a = some (instObj (D.ca c) dx)
theorem OR.inv {prog : Program} {w : World} {B : Heap} {D : Ad} {adr : List Addr} {h : Heap} {o : MO} {a : Addr} (x : OR prog w B D adr h o a) : ORI prog w B D adr h o a := by
  cases x with
  | list _ _ ws hl hv hb => exact ⟨ws, hl, hv, hb⟩
  | frz _ _ ws hl hv => exact ⟨ws, hl, hv⟩
  | dictS _ _ kvs hd he hb => exact ⟨.inl ⟨kvs, hd, he⟩, hb⟩
  | dictI _ _ kvs hd he hb => exact ⟨.inr ⟨kvs, hd, he⟩, hb⟩
  | inst _ _ _ dx e ho => exact ⟨dx, e, ho⟩
theorem asInt_vr {D : Ad} {adr : List Addr} {h : Heap} {v : MV} {u : Value} {i : Int} (e : asInt v = some i) (x : VR D adr h v u) : ∃ t, u = .int i t := by
  rw [asInt_inv e] at x
  exact x.inv
theorem sm {α : Type} {a b : α} {C : α → Prop} (e : some a = some b) (h : C b) : C a := by
  rw [Option.some.inj e]; exact h
theorem lt_of_get {h : Heap} {a : Addr} {o : Obj} (e : h.get? a = some o) : a < h.objs.size := Heap.lt_size e
section
variable {D : Ad} {adr adr' : List Addr} {h h' : Heap}
theorem VRs.ind {motive : List MV → List Value → Prop} (nil : motive [] []) (cons : ∀ v u vs us, VR D adr h v u → VRs D adr h vs us → motive vs us → motive (v :: vs) (u :: us)) {vs : List MV} {us : List Value} (x : VRs D adr h vs us) : motive vs us :=
  VRs.rec (motive_1 := fun _ _ _ => True) (motive_2 := fun vs us _ => motive vs us) trivial (fun _ => trivial) (fun _ _ => trivial) (fun _ _ _ _ _ => trivial) (fun _ _ _ _ _ _ => trivial) (fun _ _ _ => trivial) (fun _ => trivial) (fun _ => trivial) (fun _ _ _ _ _ _ => trivial) (fun _ _ _ => trivial) nil (fun hv hs _ ih => cons _ _ _ _ hv hs ih) x
theorem VRs.length {vs : List MV} {us : List Value} (x : VRs D adr h vs us) : vs.length = us.length :=
  x.ind (motive := fun vs us => vs.length = us.length) rfl fun _ _ _ _ _ _ ih => congrArg Nat.succ ih
theorem VRs.get {vs : List MV} {us : List Value} {i : Nat} {v : MV} (x : VRs D adr h vs us) : vs[i]? = some v → ∃ u, us[i]? = some u ∧ VR D adr h v u :=
  x.ind (motive := fun vs us => ∀ i : Nat, vs[i]? = some v → ∃ u, us[i]? = some u ∧ VR D adr h v u) (fun i e => nomatch e) (fun w u _ _ hv _ ih i e => by
    cases i with
    | zero => exact ⟨u, rfl, Option.some.inj e ▸ hv⟩
    | succ i => exact ih i e) i
theorem VRs.none_get {vs : List MV} {us : List Value} {i : Nat} (H : VRs D adr h vs us) (e : vs[i]? = none) : us[i]? = none := by
  rw [List.getElem?_eq_none_iff] at e ⊢; rw [← H.length]; exact e
theorem VRs.append {vs vs' : List MV} {us us' : List Value} (x : VRs D adr h vs us) (y : VRs D adr h vs' us') : VRs D adr h (vs ++ vs') (us ++ us') :=
  x.ind (motive := fun vs us => VRs D adr h (vs ++ vs') (us ++ us')) y fun _ _ _ _ hv _ ih => .cons hv ih
theorem VRs.take {vs : List MV} {us : List Value} (n : Nat) (x : VRs D adr h vs us) : VRs D adr h (vs.take n) (us.take n) :=
  x.ind (motive := fun vs us => ∀ n, VRs D adr h (vs.take n) (us.take n)) (fun n => by rw [List.take_nil, List.take_nil]; exact .nil) (fun _ _ _ _ hv _ ih n => by
    cases n with
    | zero => exact .nil
    | succ n => exact .cons hv (ih n)) n
theorem VRs.drop {vs : List MV} {us : List Value} (n : Nat) (x : VRs D adr h vs us) : VRs D adr h (vs.drop n) (us.drop n) :=
  x.ind (motive := fun vs us => ∀ n, VRs D adr h (vs.drop n) (us.drop n)) (fun n => by rw [List.drop_nil, List.drop_nil]; exact .nil) (fun _ _ _ _ hv hs ih n => by
    cases n with
    | zero => exact .cons hv hs
    | succ n => exact ih n) n
theorem VRs.set {vs : List MV} {us : List Value} (n : Nat) {v : MV} {u : Value} (x : VRs D adr h vs us) (y : VR D adr h v u) : VRs D adr h (vs.set n v) (us.set n u) :=
  x.ind (motive := fun vs us => ∀ n, VRs D adr h (vs.set n v) (us.set n u)) (fun n => .nil) (fun _ _ _ _ hv hs ih n => by
    cases n with
    | zero => exact .cons y hs
    | succ n => exact .cons hv (ih n)) n
theorem VRs.dropLast {vs : List MV} {us : List Value} (H : VRs D adr h vs us) : VRs D adr h vs.dropLast us.dropLast := by
  rw [List.dropLast_eq_take, List.dropLast_eq_take, ← H.length]; exact H.take _
noncomputable def SoftKeep (h h' : Heap) : Prop := (∀ a ws, h.IsTuple a ws → h'.IsTuple a ws) ∧ ∀ a f x, h.get? a = some (methodObj f x) → h'.get? a = some (methodObj f x)
theorem pre_get {k : Nat} {a : Addr} (hp : adr <+: adr') (e : adr[k]? = some a) : adr'[k]? = some a := by
  obtain ⟨t, rfl⟩ := hp
  obtain ⟨hl, _⟩ := List.getElem?_eq_some_iff.mp e
  rw [List.getElem?_append_left hl]; exact e
theorem VR.mono (hp : adr <+: adr') (hs : SoftKeep h h') {v : MV} {u : Value} (x : VR D adr h v u) : VR D adr' h' v u :=
  VR.rec (motive_1 := fun v u _ => VR D adr' h' v u) (motive_2 := fun vs us _ => VRs D adr' h' vs us) .none .bool .int .str (fun vs a ws ht _ ih => .tup vs a ws (hs.1 _ _ ht) ih) (fun k a e => .ref k a (pre_get hp e)) .fn .cls
    (fun k f x a e hm => .bm k f x a (pre_get hp e) (hs.2 _ _ _ hm)) .bi .nil (fun _ _ i1 i2 => .cons i1 i2) x
theorem VRs.mono (hp : adr <+: adr') (hs : SoftKeep h h') {vs : List MV} {us : List Value} (x : VRs D adr h vs us) : VRs D adr' h' vs us :=
  x.ind (motive := fun vs us => VRs D adr' h' vs us) .nil fun _ _ _ _ hv _ ih => .cons (hv.mono hp hs) ih
theorem ER.mono {α : Type} {R : MV → α → Prop} (hp : adr <+: adr') (hs : SoftKeep h h') {es : List (MV × MV)} {kvs : List (α × Value)} (x : ER D adr h R es kvs) : ER D adr' h' R es kvs := by
  induction x with
  | nil => exact .nil
  | cons hk hv _ ih => exact .cons hk (hv.mono hp hs) ih
theorem SoftKeep.refl (h : Heap) : SoftKeep h h := ⟨fun _ _ x => x, fun _ _ _ x => x⟩
theorem SoftKeep.of_keep (hk : ∀ b o, h.get? b = some o → h'.get? b = some o) : SoftKeep h h' := ⟨fun a ws ⟨o, ho, r⟩ => ⟨o, hk a o ho, r⟩, fun a f x e => hk _ _ e⟩
theorem SoftKeep.trans {h₁ h₂ h₃ : Heap} (x : SoftKeep h₁ h₂) (y : SoftKeep h₂ h₃) : SoftKeep h₁ h₃ := ⟨fun a ws t => y.1 a ws (x.1 a ws t), fun a f b e => y.2 _ _ _ (x.2 _ _ _ e)⟩
end
section
variable {prog : Program} {w : World} {B : Heap} {D : Ad} {adr adr' : List Addr} {H : MH} {h h' : Heap} {env : Env} {ρ : Loc}
noncomputable def Hard (h : Heap) (b : Addr) : Prop := (∀ ws, ¬ h.IsTuple b ws) ∧ ∀ f x, h.get? b ≠ some (methodObj f x)
theorem hard_of {a : Addr} {o : Obj} (e : h.get? a = some o) (h1 : o.cls ≠ .type "tuple") (h2 : o.cls ≠ .type "method") : Hard h a := by
  constructor
  · rintro ws ⟨o', e', hc, _⟩
    rw [e] at e'
    cases e'
    exact h1 hc
  · intro f x e'
    rw [e] at e'
    cases e'
    exact h2 rfl
theorem dict_at {K : Type} [DecidableEq K] {knd : KeyKind prog w K} {a : Addr} {kvs : List (K × Value)} (x : h.DictOf knd a kvs) : ∃ o, h.get? a = some o ∧ o.cls = .type "dict" := by
  obtain ⟨o, es, ep, e, hx, _⟩ := x
  exact ⟨o, e, hx.1⟩
theorem OR.at_ {o : MO} {a : Addr} (x : OR prog w B D adr h o a) : ∃ ob, h.get? a = some ob ∧ ob.cls ≠ .type "tuple" ∧ ob.cls ≠ .type "method" := by
  cases x with
  | list _ _ _ hl _ _ => obtain ⟨_, e⟩ := hl; exact ⟨_, e, (by decide : Value.type "list" ≠ .type "tuple"), (by decide : Value.type "list" ≠ .type "method")⟩
  | frz _ _ _ hl _ => obtain ⟨o, e, hc, _⟩ := hl; exact ⟨o, e, by rw [hc]; decide, by rw [hc]; decide⟩
  | dictS _ _ _ hd _ _ => obtain ⟨o, e, hc⟩ := dict_at hd; exact ⟨o, e, by rw [hc]; decide, by rw [hc]; decide⟩
  | dictI _ _ _ hd _ _ => obtain ⟨o, e, hc⟩ := dict_at hd; exact ⟨o, e, by rw [hc]; decide, by rw [hc]; decide⟩
  | inst _ _ _ _ _ e => exact ⟨_, e, nofun, nofun⟩
theorem OR.hard {o : MO} {a : Addr} (x : OR prog w B D adr h o a) : Hard h a := by
  obtain ⟨ob, e, h1, h2⟩ := x.at_
  exact hard_of e h1 h2
theorem OR.at {o : MO} {a : Addr} (x : OR prog w B D adr h o a) : ∃ ob, h.get? a = some ob := by
  obtain ⟨ob, e, _⟩ := x.at_
  exact ⟨ob, e⟩
theorem dict_keep {K : Type} [DecidableEq K] {knd : KeyKind prog w K} {a : Addr} {kvs : List (K × Value)} (x : h.DictOf knd a kvs) (ha : ∀ ob, h.get? a = some ob → h'.get? a = some ob) : h'.DictOf knd a kvs := by
  obtain ⟨o, xs, ep, e, r⟩ := x
  exact ⟨o, xs, ep, ha _ e, r⟩
theorem OR.mono {o : MO} {a : Addr} (hp : adr <+: adr') (hs : SoftKeep h h') (ha : ∀ ob, h.get? a = some ob → h'.get? a = some ob) (x : OR prog w B D adr h o a) : OR prog w B D adr' h' o a := by
  cases x with
  | list _ _ _ hl hv hb => obtain ⟨n, e⟩ := hl; exact .list _ _ _ ⟨n, ha _ e⟩ (hv.mono hp hs) hb
  | frz _ _ _ hl hv => obtain ⟨o, e, r⟩ := hl; exact .frz _ _ _ ⟨o, ha _ e, r⟩ (hv.mono hp hs)
  | dictS _ _ _ hd he hb => exact .dictS _ _ _ (dict_keep hd ha) (he.mono hp hs) hb
  | dictI _ _ _ hd he hb => exact .dictI _ _ _ (dict_keep hd ha) (he.mono hp hs) hb
  | inst _ _ _ _ e ho => exact .inst _ _ _ _ (pre_get hp e) (ha _ ho)
theorem hard_data {a : Addr} {o : Obj} (e : h.get? a = some o) (h1 : ∀ x n, o.data ≠ .seq x n) (h2 : ∀ x, o.data ≠ .fields x) : Hard h a := by
  constructor
  · rintro ws ⟨o', e', _, n, hd⟩
    rw [e] at e'
    cases e'
    exact h1 _ _ hd
  · intro f x e'
    rw [e] at e'
    cases e'
    exact h2 _ rfl
theorem ns_hard {a : Addr} {m : Str → Option Value} (x : h.Ns a m) : Hard h a := by
  obtain ⟨o, es, ep, e, hd, _⟩ := x
  exact hard_data e (by rw [hd]; simp) (by rw [hd]; simp)
theorem cell_hard {a : Addr} {v : Option Value} (x : h.IsCell a v) : Hard h a := by
  obtain ⟨o, e, hd⟩ := x
  exact hard_data e (by rw [hd]; simp) (by rw [hd]; simp)
theorem SR.idx (S : SR prog w B D adr H h) {a : Addr} (ha : a ∈ adr) : ∃ k, adr[k]? = some a ∧ k < H.next := by
  obtain ⟨k, hk, e⟩ := List.getElem_of_mem ha
  exact ⟨k, by rw [List.getElem?_eq_getElem hk, e], S.len ▸ hk⟩
end
end Mn
end
section
set_option maxRecDepth 100000
namespace Mn
open PySem PySem.W PyProof.Rows PySem.Calls
structure St (prog : Program) (w : World) (B : Heap) (D : Ad) (adr : List Addr) (H : MH) (ρ : Loc) (env : Env) (h : Heap) : Prop where
  sr : SR prog w B D adr H h
  lr : LR D adr h env ρ
  en : EnvOk B adr env
section
variable {prog : Program} {w : World} {B : Heap} {D : Ad} {adr adr' : List Addr} {H : MH} {h h' : Heap} {env : Env} {ρ : Loc}
theorem nodup_idx {l : List Addr} (hn : l.Nodup) {i j : Nat} {a : Addr} (e : l[i]? = some a) (e' : l[j]? = some a) : i = j := by
  obtain ⟨l1, g1⟩ := List.getElem?_eq_some_iff.mp e
  obtain ⟨l2, g2⟩ := List.getElem?_eq_some_iff.mp e'
  have q := List.pairwise_iff_getElem.mp hn
  rcases Nat.lt_trichotomy i j with h | h | h
  · exact absurd (g1.trans g2.symm) (q i j l1 l2 h)
  · exact h
  · exact absurd (g2.trans g1.symm) (q j i l2 l1 h)
theorem own_locals : env.locals ∈ own env := .head _
theorem own_cell {n : Str} {c : Addr} (e : env.cells.lookup n = some c) : c ∈ own env := .tail _ (List.mem_map.mpr ⟨(n, c), mem_of_lookup e, rfl⟩)
theorem own_inv (E : EnvOk B adr env) {a : Addr} (ha : a ∈ own env) : a = env.locals ∨ ∃ n, env.cells.lookup n = some a := by
  rcases List.mem_cons.mp ha with e | ha
  · exact .inl e
  · obtain ⟨⟨n, c⟩, hm, e⟩ := List.mem_map.mp ha
    exact .inr ⟨n, e ▸ lookup_of_mem_nodup E.names hm⟩
theorem LR.ns_ (L : LR D adr h env ρ) : ∃ m, h.Ns env.locals m := by
  obtain ⟨m, hns, _⟩ := L.ns
  exact ⟨m, hns⟩
theorem own_hard (L : LR D adr h env ρ) (E : EnvOk B adr env) : ∀ a ∈ own env, Hard h a := by
  intro a ha
  rcases own_inv E ha with e | ⟨n, e⟩
  · obtain ⟨m, hns⟩ := L.ns_
    exact e ▸ ns_hard hns
  · obtain ⟨v, c⟩ := L.cl n a e
    exact cell_hard c
theorem SR.at_ (S : SR prog w B D adr H h) {a : Addr} (ha : a ∈ adr) : ∃ o, OR prog w B D adr h o a := by
  obtain ⟨k, e, hk⟩ := S.idx ha
  obtain ⟨o, ho⟩ := Option.isSome_iff_exists.mp (S.full k hk)
  obtain ⟨a', e', O⟩ := S.obj k o ho
  exact ⟨o, Option.some.inj (e'.symm.trans e) ▸ O⟩
theorem SR.adr_hard (S : SR prog w B D adr H h) : ∀ a ∈ adr, Hard h a := by
  intro a ha
  obtain ⟨o, O⟩ := S.at_ ha
  exact O.hard
theorem soft_of {l : List Addr} (hl : ∀ a ∈ l, Hard h a) (k : ∀ b o, h.get? b = some o → b ∉ l → h'.get? b = some o) : SoftKeep h h' := by
  constructor
  · rintro a ws ⟨o, e, r⟩
    refine ⟨o, k a o e fun q => (hl a q).1 ws ⟨o, e, r⟩, r⟩
  · intro a f x e
    exact k a _ e fun q => (hl a q).2 f x e
theorem St.soft (S : St prog w B D adr H ρ env h) (k : Kp adr env h h') : SoftKeep h h' :=
  soft_of (l := adr ++ own env) (fun a ha => (List.mem_append.mp ha).elim (S.sr.adr_hard a) (own_hard S.lr S.en a)) fun b o e n => k.keep b o e (fun q => n (List.mem_append_left _ q)) (fun q => n (List.mem_append_right _ q))
theorem St.vr (S : St prog w B D adr H ρ env h) (k : Kp adr env h h') (hp : adr <+: adr') {v : MV} {u : Value} (x : VR D adr h v u) : VR D adr' h' v u := x.mono hp (S.soft k)
theorem St.vrs (S : St prog w B D adr H ρ env h) (k : Kp adr env h h') (hp : adr <+: adr') {v : List MV} {u : List Value} (x : VRs D adr h v u) : VRs D adr' h' v u := x.mono hp (S.soft k)
theorem live_of {h h' : Heap} (k : ∀ b o, h.get? b = some o → h'.get? b = some o) : ∀ b, (h.get? b).isSome = true → (h'.get? b).isSome = true := fun b e => by
  obtain ⟨o, ho⟩ := Option.isSome_iff_exists.mp e
  rw [k b o ho]; rfl
theorem live_but {h h' : Heap} {a : Addr} (hs : Heap.SameBut a h h') (ha : (h'.get? a).isSome = true) : ∀ b, (h.get? b).isSome = true → (h'.get? b).isSome = true := fun b e => by
  by_cases q : b = a
  · rw [q]; exact ha
  · rw [hs.2 b q]; exact e
theorem some_of {h : Heap} {a : Addr} {o : Obj} (e : h.get? a = some o) : (h.get? a).isSome = true := by rw [e]; rfl
theorem Kp.trans {h₁ h₂ : Heap} (S : ∀ a ∈ adr', a ∈ adr ∨ h.get? a = none) (x : Kp adr env h h₁) (y : Kp adr' env h₁ h₂) : Kp adr env h h₂ :=
  ⟨fun b o e n m => y.keep b o (x.keep b o e n m) (fun q => (S b q).elim n fun z => (by rw [e] at z; cases z)) m, fun b e => y.live b (x.live b e)⟩
structure Tn (adr : List Addr) (env : Env) (h : Heap) (adr' : List Addr) (h' : Heap) : Prop where
  pre : adr <+: adr'
  new : ∀ a ∈ adr', a ∈ adr ∨ h.get? a = none
  kp : Kp adr env h h'
theorem none_back {h h' : Heap} {a : Addr} (k : (h.get? a).isSome = true → (h'.get? a).isSome = true) (e : h'.get? a = none) : h.get? a = none := by
  cases q : h.get? a with
  | none => rfl
  | some o =>
    have := k (some_of q)
    rw [e] at this
    cases this
theorem Tn.refl (adr : List Addr) (env : Env) (h : Heap) : Tn adr env h adr h := ⟨List.prefix_refl _, fun _ q => .inl q, Kp.refl ..⟩
theorem Tn.trans {adr₁ adr₂ : List Addr} {h₁ h₂ : Heap} (x : Tn adr env h adr₁ h₁) (y : Tn adr₁ env h₁ adr₂ h₂) : Tn adr env h adr₂ h₂ :=
  ⟨x.pre.trans y.pre, fun a q => (y.new a q).elim (x.new a) fun z => .inr (none_back (x.kp.live a) z), x.kp.trans x.new y.kp⟩
theorem St.vt (S : St prog w B D adr H ρ env h) (t : Tn adr env h adr' h') {v : MV} {u : Value} (x : VR D adr h v u) : VR D adr' h' v u := S.vr t.kp t.pre x
theorem St.vts (S : St prog w B D adr H ρ env h) (t : Tn adr env h adr' h') {v : List MV} {u : List Value} (x : VRs D adr h v u) : VRs D adr' h' v u := S.vrs t.kp t.pre x
theorem cell_keep {a : Addr} {v : Option Value} (x : h.IsCell a v) (k : ∀ o, h.get? a = some o → h'.get? a = some o) : h'.IsCell a v := by
  obtain ⟨o, e, r⟩ := x
  exact ⟨o, k o e, r⟩
theorem ns_keep {a : Addr} {m : Str → Option Value} (x : h.Ns a m) (k : ∀ o, h.get? a = some o → h'.get? a = some o) : h'.Ns a m := by
  obtain ⟨o, es, ep, e, r⟩ := x
  exact ⟨o, es, ep, k o e, r⟩
theorem LR.keep (L : LR D adr h env ρ) (hp : adr <+: adr') (hs : SoftKeep h h') (ho : ∀ a ∈ own env, ∀ o, h.get? a = some o → h'.get? a = some o) : LR D adr' h' env ρ := by
  obtain ⟨m, hns, hv⟩ := L.ns
  refine ⟨⟨m, ns_keep hns (ho _ own_locals), fun s v ok e q => ?_⟩, fun n c e => ?_, fun s v ok e q => ?_⟩
  · obtain ⟨u, e1, x⟩ := hv s v ok e q
    exact ⟨u, e1, x.mono hp hs⟩
  · obtain ⟨v, c'⟩ := L.cl n c e
    exact ⟨v, cell_keep c' (ho _ (own_cell e))⟩
  · obtain ⟨c, u, e1, c', x⟩ := L.cv s v ok e q
    exact ⟨c, u, e1, cell_keep c' (ho _ (own_cell e1)), x.mono hp hs⟩
theorem EnvOk.keep (E : EnvOk B adr env) (hl : ∀ a ∈ own env, (h.get? a).isSome = true) (hn : ∀ a ∈ adr', a ∈ adr ∨ h.get? a = none) : EnvOk B adr' env :=
  ⟨E.kind, E.glob, E.blt, E.nd, E.names, fun a q z => (hn a z).elim (E.offA a q) fun y => (by have := hl a q; rw [y] at this; cases this), E.offB, E.held⟩
theorem LR.live (L : LR D adr h env ρ) (E : EnvOk B adr env) : ∀ a ∈ own env, (h.get? a).isSome = true := by
  intro a ha
  rcases own_inv E ha with q | ⟨n, e⟩
  · obtain ⟨m, o, es, ep, e, _⟩ := L.ns_
    exact q ▸ some_of e
  · obtain ⟨v, o, e, _⟩ := L.cl n a e
    exact some_of e
theorem SR.live (S : SR prog w B D adr H h) : ∀ a ∈ adr, (h.get? a).isSome = true := by
  intro a ha
  obtain ⟨o, O⟩ := S.at_ ha
  obtain ⟨ob, e⟩ := O.at
  exact some_of e
theorem St.grown (S : St prog w B D adr H ρ env h) (k : ∀ b o, h.get? b = some o → h'.get? b = some o) : St prog w B D adr H ρ env h' := by
  have hs : SoftKeep h h' := .of_keep k
  refine ⟨⟨fun b o e => k _ _ (S.sr.base b o e), S.sr.len, S.sr.nd, fun i o e => ?_, S.sr.full, S.sr.st⟩, S.lr.keep (List.prefix_refl _) hs fun _ _ o e => k _ _ e, S.en⟩
  obtain ⟨a, e1, O⟩ := S.sr.obj i o e
  exact ⟨a, e1, O.mono (List.prefix_refl _) hs fun ob e => k _ _ e⟩
theorem Tn.grown (k : ∀ b o, h.get? b = some o → h'.get? b = some o) : Tn adr env h adr h' := ⟨List.prefix_refl _, fun _ q => .inl q, ⟨fun b o e _ _ => k b o e, live_of k⟩⟩
theorem St.takes (S : St prog w B D adr H ρ env h) (k : ∀ b o, h.get? b = some o → h'.get? b = some o) {a : Addr} {o : MO}
    (ha : a ∉ adr) (ho : a ∉ own env) (O : OR prog w B D (adr ++ [a]) h' o a) : St prog w B D (adr ++ [a]) (H.new o) ρ env h' := by
  have hs : SoftKeep h h' := .of_keep k
  have hp : adr <+: adr ++ [a] := List.prefix_append ..
  refine ⟨⟨fun b o e => k _ _ (S.sr.base b o e), by simp [MH.new, S.sr.len], ?_, fun i ob e => ?_, fun i hi => ?_, S.sr.st⟩, S.lr.keep hp hs fun _ _ o e => k _ _ e,
    ⟨S.en.kind, S.en.glob, S.en.blt, S.en.nd, S.en.names, fun b q z => (List.mem_append.mp z).elim (S.en.offA b q) fun z => ho (List.mem_singleton.mp z ▸ q), S.en.offB, S.en.held⟩⟩
  · rw [List.nodup_append]
    refine ⟨S.sr.nd, by simp, fun x hx y hy e => ha ?_⟩
    rw [← List.mem_singleton.mp hy, ← e]
    exact hx
  · simp only [MH.new] at e
    by_cases hi : i = H.next
    · rw [if_pos hi] at e
      cases e
      refine ⟨a, ?_, O⟩
      rw [hi, ← S.sr.len]
      simp
    · rw [if_neg hi] at e
      obtain ⟨b, e1, O1⟩ := S.sr.obj i ob e
      exact ⟨b, pre_get hp e1, O1.mono hp hs fun ob e => k _ _ e⟩
  · simp only [MH.new] at hi ⊢
    by_cases q : i = H.next
    · rw [if_pos q]; rfl
    · rw [if_neg q]; exact S.sr.full i (by omega)
theorem St.made (S : St prog w B D adr H ρ env h) (k : ∀ b o, h.get? b = some o → h'.get? b = some o) {a : Addr} {o : MO}
    (ha : h.get? a = none) (O : OR prog w B D (adr ++ [a]) h' o a) : St prog w B D (adr ++ [a]) (H.new o) ρ env h' :=
  S.takes k (fun q => by have := S.sr.live a q; rw [ha] at this; cases this) (fun q => by have := S.lr.live S.en a q; rw [ha] at this; cases this) O
theorem Tn.made (k : ∀ b o, h.get? b = some o → h'.get? b = some o) {a : Addr} (ha : h.get? a = none) : Tn adr env h (adr ++ [a]) h' :=
  ⟨List.prefix_append .., fun b q => (List.mem_append.mp q).elim .inl fun q => .inr (by rw [List.mem_singleton.mp q]; exact ha), ⟨fun b o e _ _ => k b o e, live_of k⟩⟩
theorem St.turned (S : St prog w B D adr H ρ env h) {k : Nat} {a : Addr} {o : MO} (hk : adr[k]? = some a) (hh : Hard h a) (hs : Heap.SameBut a h h') (hb : Off B a) (O : SoftKeep h h' → OR prog w B D adr h' o a) :
    St prog w B D adr (H.upd k o) ρ env h' := by
  have sk : SoftKeep h h' := soft_of (l := [a]) (fun b q => by rw [List.mem_singleton.mp q]; exact hh) fun b ob e n => (hs.2 b fun z => n (by rw [z]; exact .head _)).trans e
  have ha : a ∈ adr := List.mem_of_getElem? hk
  refine ⟨⟨fun b ob e => (hs.2 b fun z => ?_).trans (S.sr.base b ob e), S.sr.len, S.sr.nd, fun i ob e => ?_, fun i hi => ?_, S.sr.st⟩,
    S.lr.keep (List.prefix_refl _) sk fun b q ob e => (hs.2 b fun z => S.en.offA b q (z ▸ ha)).trans e, S.en⟩
  · rw [z, hb.1] at e; cases e
  · simp only [MH.upd] at e
    by_cases q : i = k
    · rw [if_pos q] at e
      cases e
      exact ⟨a, q ▸ hk, O sk⟩
    · rw [if_neg q] at e
      obtain ⟨b, e1, O1⟩ := S.sr.obj i ob e
      refine ⟨b, e1, O1.mono (List.prefix_refl _) sk fun ob e => (hs.2 b fun z => q ?_).trans e⟩
      subst z
      exact nodup_idx S.sr.nd e1 hk
  · simp only [MH.upd]
    by_cases q : i = k
    · rw [if_pos q]; rfl
    · rw [if_neg q]; exact S.sr.full i hi
theorem Tn.turned {k : Nat} {a : Addr} (hk : adr[k]? = some a) (hs : Heap.SameBut a h h') (ha : ∃ ob, h'.get? a = some ob) : Tn adr env h adr h' :=
  ⟨List.prefix_refl _, fun _ q => .inl q, ⟨fun b o e n _ => (hs.2 b fun z => n (z ▸ List.mem_of_getElem? hk)).trans e, live_but hs (by obtain ⟨ob, e⟩ := ha; exact some_of e)⟩⟩
end
end Mn
end
section
set_option maxRecDepth 100000
namespace Mn
open PySem PySem.W PyProof.Rows PySem.Calls SeqAt
theorem codeL_pos (l : List Nat) : ∀ a, 1 ≤ a → 1 ≤ l.foldl (fun a c => a * 256 + c) a := by
  induction l with
  | nil => intro a h; exact h
  | cons c l ih => intro a h; exact ih _ (by show 1 ≤ a * 256 + c; omega)
theorem codeL_inj : ∀ (l l' : List Nat), (∀ c ∈ l, c < 256) → (∀ c ∈ l', c < 256) → l.foldl (fun a c => a * 256 + c) 1 = l'.foldl (fun a c => a * 256 + c) 1 → l = l' := by
  intro l
  induction h : l.length generalizing l with
  | zero =>
    intro l' _ h' e
    obtain rfl : l = [] := List.length_eq_zero_iff.mp h
    rcases List.eq_nil_or_concat l' with rfl | ⟨r, c, rfl⟩
    · rfl
    · rw [List.concat_eq_append, List.foldl_append] at e
      simp only [List.foldl_nil, List.foldl_cons] at e
      have := codeL_pos r 1 (Nat.le_refl _)
      omega
  | succ n ih =>
    intro l' h1 h' e
    rcases List.eq_nil_or_concat l with rfl | ⟨q, d, rfl⟩
    · cases h
    rcases List.eq_nil_or_concat l' with rfl | ⟨r, c, rfl⟩
    · rw [List.concat_eq_append, List.foldl_append] at e
      simp only [List.foldl_nil, List.foldl_cons] at e
      have := codeL_pos q 1 (Nat.le_refl _)
      omega
    · simp only [List.concat_eq_append, List.foldl_append, List.foldl_nil, List.foldl_cons] at e h1 h' h ⊢
      have b1 := h1 d (by simp)
      have b2 := h' c (by simp)
      have := ih q (by simpa using h) r (fun x hx => h1 x (by simp [hx])) (fun x hx => h' x (by simp [hx])) (by omega)
      subst this
      have : d = c := by omega
      rw [this]
theorem code_list (s : Str) : code s = s.cps.toList.foldl (fun a c => a * 256 + c) 1 := by
  unfold code
  rw [← Array.foldl_toList]
theorem code_inj {s t : Str} (hs : okS s) (ht : okS t) (e : code s = code t) : s = t := by
  rw [code_list, code_list] at e
  have := codeL_inj _ _ hs ht e
  obtain ⟨a⟩ := s
  obtain ⟨b⟩ := t
  congr
  exact Array.ext' this
theorem code_beq {s t : Str} (hs : okS s) (ht : okS t) : (s == t) = Nat.beq (code s) (code t) := by
  cases h : Nat.beq (code s) (code t) with
  | true => exact beq_iff_eq.mpr (code_inj hs ht (Nat.eq_of_beq_eq_true h))
  | false =>
    refine beq_eq_false_iff_ne.mpr fun e => ?_
    subst e
    exact absurd rfl (Nat.ne_of_beq_eq_false h)
theorem feqL_at {f : MV → MV → Option Bool} : ∀ {l r : List MV} {b : Bool}, feqL f l r = some b →
    ∃ e : Nat → Bool, (∀ j v u, l[j]? = some v → r[j]? = some u → f v u = some (e j)) ∧ b = ((List.range (min l.length r.length)).all e && l.length == r.length)
  | [], [], b, h => by cases h; exact ⟨fun _ => true, fun j v u e => by simp at e, rfl⟩
  | [], _ :: _, b, h => by cases h; exact ⟨fun _ => true, fun j v u e => by simp at e, by simp⟩
  | _ :: _, [], b, h => by cases h; exact ⟨fun _ => true, fun j v u _ e => by simp at e, by simp⟩
  | x :: l, y :: r, b, h => by
    obtain ⟨b1, h1, h⟩ := Option.bind_eq_some_iff.mp h
    obtain ⟨b2, h2, h⟩ := Option.bind_eq_some_iff.mp h
    cases h
    obtain ⟨e, he, hb⟩ := feqL_at h2
    refine ⟨fun j => match j with | 0 => b1 | j + 1 => e j, fun j v u q1 q2 => ?_, ?_⟩
    · cases j with
      | zero =>
        simp only [List.getElem?_cons_zero, Option.some.injEq] at q1 q2
        subst q1 q2
        exact h1
      | succ j =>
        simp only [List.getElem?_cons_succ] at q1 q2
        exact he j v u q1 q2
    · rw [hb]
      simp only [List.length_cons]
      rw [show min (l.length + 1) (r.length + 1) = min l.length r.length + 1 by omega, List.range_succ_eq_map, List.all_cons, List.all_map]
      have : (l.length + 1 == r.length + 1) = (l.length == r.length) := by
        cases h : l.length == r.length with
        | true => simpa using h
        | false => simpa using h
      rw [this, Bool.and_assoc]
      rfl
section
variable {D : Ad} {adr : List Addr} {A : Around} {s : Shared}
theorem tuple_same {h : Heap} {a : Addr} {ws ws' : Array Value} (x : h.IsTuple a ws) (y : h.IsTuple a ws') : ws = ws' := by
  obtain ⟨o, e, _, n, d⟩ := x
  obtain ⟨o', e', _, n', d'⟩ := y
  rw [e] at e'
  cases e'
  rw [d] at d'
  cases d'
  rfl
theorem VRs.at {h : Heap} {vs : List MV} {us : List Value} (H : VRs D adr h vs us) {j : Nat} {u : Value} (e : us[j]? = some u) : ∃ v, vs[j]? = some v ∧ VR D adr h v u := by
  cases q : vs[j]? with
  | none => rw [H.none_get q] at e; cases e
  | some v =>
    obtain ⟨u', e', x⟩ := H.get q
    exact ⟨v, rfl, Option.some.inj (e'.symm.trans e) ▸ x⟩
inductive FqI (D : Ad) (adr : List Addr) (h : Heap) (n : Nat) : MV → MV → Bool → Value → Value → Prop
  | nn : FqI D adr h n .none .none true .none .none
  | ni (i : Int) (t : Tok) : FqI D adr h n .none (.int i) false .none (.int i t)
  | inn (i : Int) (t : Tok) : FqI D adr h n (.int i) .none false (.int i t) .none
  | bb (p q : Bool) : FqI D adr h n (.bool p) (.bool q) (p == q) (.bool p) (.bool q)
  | ii (i j : Int) (t t' : Tok) : FqI D adr h n (.int i) (.int j) (decide (i = j)) (.int i t) (.int j t')
  | is (i : Int) (t : Tok) {z : Str} (t' : Tok) : FqI D adr h n (.int i) (.str (code z)) false (.int i t) (.str z t')
  | si {z : Str} (t : Tok) (i : Int) (t' : Tok) : FqI D adr h n (.str (code z)) (.int i) false (.str z t) (.int i t')
  | ss {z z' : Str} (t t' : Tok) (ok : okS z) (ok' : okS z') : FqI D adr h n (.str (code z)) (.str (code z')) (Nat.beq (code z) (code z')) (.str z t) (.str z' t')
  | tt {vs vs' : List MV} {a a' : Addr} {ws ws' : Array Value} {b : Bool} (ht : h.IsTuple a ws) (ht' : h.IsTuple a' ws') (hv : VRs D adr h vs ws.toList) (hv' : VRs D adr h vs' ws'.toList) (e : feqL (feq n) vs vs' = some b) : FqI D adr h n (.tup vs) (.tup vs') b (.ref a) (.ref a')
theorem fq_inv {n : Nat} {v v' : MV} {b : Bool} {u u' : Value} {h : Heap} (e : feq (n + 1) v v' = some b) (x : VR D adr h v u) (y : VR D adr h v' u') : FqI D adr h n v v' b u u' := by
  replace x := x.inv
  replace y := y.inv
  cases v with
  | none =>
    obtain rfl : u = .none := x
    cases v' with
    | none => obtain rfl : u' = .none := y; exact sm (C := fun b => FqI D adr h n _ _ b _ _) e.symm .nn
    | int i => obtain ⟨t, rfl⟩ := y; exact sm (C := fun b => FqI D adr h n _ _ b _ _) e.symm (.ni i t)
    | _ => cases e
  | bool p =>
    obtain rfl : u = .bool p := x
    cases v' with
    | bool q => obtain rfl : u' = .bool q := y; exact sm (C := fun b => FqI D adr h n _ _ b _ _) e.symm (.bb p q)
    | _ => cases e
  | int i =>
    obtain ⟨t, rfl⟩ := x
    cases v' with
    | none => obtain rfl : u' = .none := y; exact sm (C := fun b => FqI D adr h n _ _ b _ _) e.symm (.inn i t)
    | int j => obtain ⟨t', rfl⟩ := y; exact sm (C := fun b => FqI D adr h n _ _ b _ _) e.symm (.ii i j t t')
    | str m => obtain ⟨z, t', ok, rfl, rfl⟩ := y; exact sm (C := fun b => FqI D adr h n _ _ b _ _) e.symm (.is i t t')
    | _ => cases e
  | str m =>
    obtain ⟨z, t, ok, rfl, rfl⟩ := x
    cases v' with
    | int j => obtain ⟨t', rfl⟩ := y; exact sm (C := fun b => FqI D adr h n _ _ b _ _) e.symm (.si t j t')
    | str m' => obtain ⟨z', t', ok', rfl, rfl⟩ := y; exact sm (C := fun b => FqI D adr h n _ _ b _ _) e.symm (.ss t t' ok ok')
    | _ => cases e
  | tup vs =>
    obtain ⟨a, ws, rfl, ht, hv⟩ := x
    cases v' with
    | tup vs' => obtain ⟨a', ws', rfl, ht', hv'⟩ := y; exact .tt ht ht' hv hv' e
    | _ => cases e
  | _ => cases e
theorem feq_same : ∀ (n : Nat) {v v' : MV} {b : Bool} {u : Value} {h : Heap}, feq n v v' = some b → VR D adr h v u → VR D adr h v' u → b = true
  | 0, _, _, _, _, _, e, _, _ => nomatch e
  | n + 1, v, v', b, u, h, e, x, y => by
    have key : ∀ {u u' : Value}, FqI D adr h n v v' b u u' → u = u' → b = true := by
      intro u u' z q
      cases z with
      | nn => rfl
      | ni => cases q
      | inn => cases q
      | bb p p' => injection q with q; subst q; exact beq_self_eq_true p
      | ii => injection q with q; exact decide_eq_true q
      | is => cases q
      | si => cases q
      | ss => injection q with q; subst q; exact Nat.beq_refl _
      | @tt vs vs' a a' ws ws' _ ht ht' hv hv' e =>
        injection q with q
        subst q
        obtain rfl := tuple_same ht ht'
        obtain ⟨f, hf, hb⟩ := feqL_at e
        rw [hb, hv.length, hv'.length, Nat.min_self, beq_self_eq_true, Bool.and_true, List.all_eq_true]
        intro j hj
        rw [List.mem_range] at hj
        obtain ⟨v1, e1, x1⟩ := hv.at (List.getElem?_eq_getElem hj)
        obtain ⟨v2, e2, x2⟩ := hv'.at (List.getElem?_eq_getElem hj)
        exact feq_same n (hf j v1 v2 e1 e2) x1 x2
    exact key (fq_inv e x y) rfl
theorem items_at {f : MV → MV → Option Bool} {vs vs' : List MV} {ws ws' : Array Value} {e : Nat → Bool} (hv : VRs D adr s.heap vs ws.toList) (hv' : VRs D adr s.heap vs' ws'.toList)
    (hf : ∀ j v u, vs[j]? = some v → vs'[j]? = some u → f v u = some (e j)) (ih : ∀ {v v' : MV} {b : Bool} {u u' : Value}, f v v' = some b → VR D adr s.heap v u → VR D adr s.heap v' u' → EqAt A s u u' b) :
    ∀ j (h1 : j < ws.size) (h2 : j < ws'.size), EqAt A s ws[j] ws'[j] (e j) := by
  intro j h1 h2
  obtain ⟨v1, e1, x1⟩ := hv.at (j := j) (u := ws[j]) (by rw [Array.getElem?_toList, Array.getElem?_eq_getElem h1])
  obtain ⟨v2, e2, x2⟩ := hv'.at (j := j) (u := ws'[j]) (by rw [Array.getElem?_toList, Array.getElem?_eq_getElem h2])
  exact ih (hf j v1 v2 e1 e2) x1 x2
theorem feq_ok : ∀ (n : Nat) {A : Around} {v v' : MV} {b : Bool} {u u' : Value}, feq n v v' = some b → VR D adr s.heap v u → VR D adr s.heap v' u' → A.units + n < cLine → EqAt A s u u' b
  | 0, _, _, _, _, _, _, e, _, _, _ => by cases e
  | n + 1, A, v, v', b, u, u', e, x, y, hu => by
    cases fq_inv e x y with
    | nn => exact EqAt.same _
    | ni i t => exact EqAt.none_int i t
    | inn i t => exact EqAt.int_none i t
    | @is i t z t' => exact EqAt.int_str i t z t'
    | @si z t i t' => exact EqAt.str_int z t i t'
    | bb p q => exact EqAt.bool_bool p q
    | ii i j t t' => have := EqAt.int_int (A := A) (s := s) i t j t'; simpa [BEq.beq] using this
    | @ss z z' t t' ok ok' =>
      have := EqAt.str_str (A := A) (s := s) z t z' t'
      rw [code_beq ok ok'] at this
      exact this
    | @tt vs vs' a a' ws ws' b ht ht' hv hv' e' =>
      by_cases ha : a = a'
      · subst ha
        rw [feq_same _ e x y]
        exact EqAt.same _
      · obtain ⟨f, hf, hb⟩ := feqL_at e'
        refine EqAt.of_refs ha ?_
        rw [hb, hv.length, hv'.length]
        have := RcAt.tuples (A := A) (s := s) (e := f) ht ht' (by omega) (items_at hv hv' hf fun q1 q2 q3 => feq_ok n q1 q2 q3 (by show A.units + 1 + n < cLine; omega))
        simpa using this
end
end Mn
end
section
set_option maxRecDepth 100000
namespace Mn
open PySem PySem.W PyProof.Rows PySem.Calls SeqAt
section
variable {prog : Program} {w : World} {B : Heap} {D : Ad} {adr : List Addr} {H : MH} {A : Around} {s : Shared}
theorem keyEq_S {k : MV} {z s : Str} (hk : SK k z) (hs : okS s) : keyEq k (.str (code s)) = decide (z = s) := by
  obtain ⟨ok, rfl⟩ := hk
  show Nat.beq (code z) (code s) = _
  rw [← code_beq ok hs]
  by_cases h : z = s <;> simp [h]
theorem keyEq_I {k : MV} {i j : Int} (hk : IK k i) : keyEq k (.int j) = decide (i = j) := by
  subst hk
  rfl
theorem dGet_at {α : Type} [DecidableEq α] {R : MV → α → Prop} {q : MV} {a : α} (hq : ∀ k b, R k b → keyEq k q = decide (b = a)) {h : Heap} {es : List (MV × MV)} {kvs : List (α × Value)} (x : ER D adr h R es kvs) :
    (∀ v, dGet q es = some v → ∃ u, valueAt kvs a = some u ∧ VR D adr h v u) ∧ (dGet q es = none → valueAt kvs a = none) := by
  induction x with
  | nil => exact ⟨fun v e => (nomatch e), fun _ => rfl⟩
  | @cons k v b u es kvs hk hv hs ih =>
    have e1 : dGet q ((k, v) :: es) = if decide (b = a) = true then some v else dGet q es := by rw [← hq k b hk]; rfl
    have e2 : valueAt ((b, u) :: kvs) a = if decide (b = a) = true then some u else valueAt kvs a := by
      unfold valueAt
      rw [List.find?_cons]
      cases decide (b = a) <;> rfl
    rw [e1, e2]
    cases decide (b = a) with
    | true => exact ⟨fun v e => ⟨u, rfl, Option.some.inj e ▸ hv⟩, fun e => (nomatch e)⟩
    | false => exact ih
theorem ER.length {α : Type} {R : MV → α → Prop} {h : Heap} {es : List (MV × MV)} {kvs : List (α × Value)} (x : ER D adr h R es kvs) : es.length = kvs.length := by
  induction x with
  | nil => rfl
  | cons _ _ _ ih => exact congrArg Nat.succ ih
theorem ER.append {α : Type} {R : MV → α → Prop} {h : Heap} {k v : MV} {a : α} {u : Value} (hk : R k a) (hv : VR D adr h v u) {es : List (MV × MV)} {kvs : List (α × Value)} (x : ER D adr h R es kvs) : ER D adr h R (es ++ [(k, v)]) (kvs ++ [(a, u)]) := by
  induction x with
  | nil => exact .cons hk hv .nil
  | cons hk' hv' _ ih => exact .cons hk' hv' ih
theorem stored_c {α : Type} [DecidableEq α] (b a : α) (u' u : Value) (kvs : List (α × Value)) (hn : b ∉ kvs.map (·.1)) : stored ((b, u') :: kvs) a u = if decide (b = a) = true then (b, u) :: kvs else (b, u') :: stored kvs a u := by
  unfold stored
  by_cases h : b = a
  · subst h
    have : (kvs.map fun kv => if kv.1 = b then (kv.1, u) else kv) = kvs := map_store_of_not_mem kvs b u hn
    simp only [List.any_cons, List.map_cons, decide_true, if_true, Bool.true_or, this]
  · simp only [List.any_cons, List.map_cons, h, decide_false, Bool.false_or, if_false, Bool.false_eq_true]
    split <;> rfl
theorem dPut_at {α : Type} [DecidableEq α] {R : MV → α → Prop} {q v : MV} {a : α} {u : Value} (hR : R q a) (hq : ∀ k b, R k b → keyEq k q = decide (b = a)) {h : Heap} (hv : VR D adr h v u)
    {es : List (MV × MV)} {kvs : List (α × Value)} (x : ER D adr h R es kvs) : (kvs.map (·.1)).Nodup → ER D adr h R (dPut q v es) (stored kvs a u) := by
  induction x with
  | nil => exact fun _ => .cons hR hv .nil
  | @cons k v' b u' es kvs hk hv' hs ih =>
    intro hn
    rw [List.map_cons, List.nodup_cons] at hn
    have e1 : dPut q v ((k, v') :: es) = if decide (b = a) = true then (k, v) :: es else (k, v') :: dPut q v es := by rw [← hq k b hk]; rfl
    rw [e1, stored_c b a u' u kvs hn.1]
    cases decide (b = a) with
    | true => exact .cons hk hv hs
    | false => exact .cons hk hv' (ih hn.2)
theorem empty_kinds {h : Heap} {a : Addr} {α β : Type} [DecidableEq α] [DecidableEq β] {k1 : KeyKind prog w α} {k2 : KeyKind prog w β} (x : h.DictOf k1 a []) : h.DictOf k2 a [] := by
  obtain ⟨o, es, ep, e, hx, hd, hk, hp, _⟩ := x
  have : es.toList = [] := by cases hp' : es.toList with | nil => rfl | cons y l => rw [hp'] at hp; cases hp
  obtain rfl : es = #[] := Array.ext' this
  exact ⟨o, #[], ep, e, hx, hd, fun _ he => by simp at he, Pairs.nil, List.nodup_nil⟩
theorem SK_eq {k : MV} {a : Str} (h : SK k a) : ∀ k' b, SK k' b → keyEq k' k = decide (b = a) := fun k' b h' => by
  obtain ⟨ok, rfl⟩ := h
  exact keyEq_S h' ok
theorem IK_eq {k : MV} {a : Int} (h : IK k a) : ∀ k' b, IK k' b → keyEq k' k = decide (b = a) := fun k' b h' => by
  obtain rfl := h
  exact keyEq_I h'
noncomputable def RC (A : Around) (s : Shared) (u u' : Value) (b : Bool) : Prop := RcAt A s u u' b ∧ RcNeAt A s u u' (!b)
theorem feq_rc {n : Nat} {v v' : MV} {b : Bool} {u u' : Value} (e : feq (n + 1) v v' = some b) (x : VR D adr s.heap v u) (y : VR D adr s.heap v' u') (hu : A.units + n + 1 < cLine) : RC A s u u' b := by
  cases fq_inv e x y with
  | nn => exact ⟨RcAt.none_none, RcNeAt.none_none⟩
  | ni i t => exact ⟨RcAt.none_int i t, RcNeAt.none_int i t⟩
  | inn i t => exact ⟨RcAt.int_none i t, RcNeAt.int_none i t⟩
  | @is i t z t' => exact ⟨RcAt.int_str i t z t', RcNeAt.int_str i t z t'⟩
  | @si z t i t' => exact ⟨RcAt.str_int z t i t', RcNeAt.str_int z t i t'⟩
  | bb p q => exact ⟨RcAt.bool_bool p q, RcNeAt.bool_bool p q⟩
  | ii i j t t' =>
    have h1 := RcAt.int_int (A := A) (s := s) i t j t'
    have h2 := RcNeAt.int_int (A := A) (s := s) i t j t'
    exact ⟨by simpa [BEq.beq] using h1, by simpa [BEq.beq] using h2⟩
  | @ss z z' t t' ok ok' =>
    have h1 := RcAt.str_str (A := A) (s := s) z t z' t'
    have h2 := RcNeAt.str_str (A := A) (s := s) z t z' t'
    rw [code_beq ok ok'] at h1 h2
    exact ⟨h1, h2⟩
  | @tt vs vs' a a' ws ws' b ht ht' hv hv' e' =>
    obtain ⟨f, hf, hb⟩ := feqL_at e'
    have items := items_at (A := A.in1) hv hv' hf fun q1 q2 q3 => feq_ok n q1 q2 q3 (by show A.units + 1 + n < cLine; omega)
    have h1 := RcAt.tuples (A := A) (s := s) (e := f) ht ht' (by omega) items
    have h2 := RcNeAt.tuples (A := A) (s := s) (e := f) ht ht' (by omega) items
    rw [hb, hv.length, hv'.length]
    exact ⟨by simpa using h1, by simpa using h2⟩
theorem sizes {h : Heap} {vs vs' : List MV} {ws ws' : Array Value} (hv : VRs D adr h vs ws.toList) (hv' : VRs D adr h vs' ws'.toList) : vs.length = ws.size ∧ vs'.length = ws'.size :=
  ⟨hv.length.trans Array.length_toList, hv'.length.trans Array.length_toList⟩
theorem lists_rc {vs vs' : List MV} {a a' : Addr} {ws ws' : Array Value} {b : Bool} (ht : s.heap.IsList a ws) (ht' : s.heap.IsList a' ws') (hv : VRs D adr s.heap vs ws.toList) (hv' : VRs D adr s.heap vs' ws'.toList)
    (e : (if vs.length = vs'.length then feqL (feq 6) vs vs' else some false) = some b) (hu : A.units + 8 < cLine) : RC A s (.ref a) (.ref a') b := by
  obtain ⟨h1, h2⟩ := sizes hv hv'
  by_cases hl : vs.length = vs'.length
  · rw [if_pos hl] at e
    obtain ⟨f, hf, hb⟩ := feqL_at e
    have items := items_at (A := A.in1) hv hv' hf fun q1 q2 q3 => feq_ok 6 q1 q2 q3 (Nat.lt_of_le_of_lt (Nat.le_of_eq (Nat.add_assoc A.units 1 6)) (Nat.lt_of_succ_lt hu))
    have hs : ws.size = ws'.size := h1.symm.trans (hl.trans h2)
    rw [hb, hl, Nat.min_self, beq_self_eq_true, Bool.and_true, h2, ← hs]
    exact ⟨RcAt.lists ht ht' hs (by omega) items, RcNeAt.lists ht ht' hs (by omega) items⟩
  · rw [if_neg hl] at e
    have hs : (ws.size != ws'.size) = true := bne_iff_ne.mpr fun q => hl (h1.trans (q.trans h2.symm))
    exact sm (C := fun b => RC A s (.ref a) (.ref a') b) e.symm ⟨RcAt.lists_lengths ht ht' hs (by omega), RcNeAt.lists_lengths ht ht' hs (by omega)⟩
theorem SR.vref (S : SR prog w B D adr H s.heap) {k : Nat} {o : MO} {u : Value} (e : H.get k = some o) (x : VR D adr s.heap (.ref k) u) : ∃ a, u = .ref a ∧ adr[k]? = some a ∧ OR prog w B D adr s.heap o a := by
  obtain ⟨a, rfl, ha⟩ := x.inv
  obtain ⟨a', ha', O⟩ := S.obj k o e
  exact ⟨a, rfl, ha, Option.some.inj (ha'.symm.trans ha) ▸ O⟩
theorem OR.listE {vs : List MV} {a : Addr} (O : OR prog w B D adr s.heap (.list vs) a) : ∃ ws, s.heap.PlainList a ws ∧ VRs D adr s.heap vs ws.toList ∧ Off B a := O.inv
theorem OR.frzE {vs : List MV} {a : Addr} (O : OR prog w B D adr s.heap (.frz vs) a) : ∃ ws, s.heap.IsList a ws ∧ VRs D adr s.heap vs ws.toList := O.inv
theorem OR.instE {c d : Nat} {a : Addr} (O : OR prog w B D adr s.heap (.inst c d) a) : ∃ dx, adr[d]? = some dx ∧ s.heap.get? a = some (instObj (D.ca c) dx) := O.inv
theorem not_sm {a : Addr} (hb : Off B a) : (a == sysModules) = false := beq_eq_false_iff_ne.mpr hb.2
theorem RC.both {u u' : Value} {b : Bool} (r : RC A s u u' b) {E : Value → Shared → Prop} {Q : Value → Shared → Prop} :
    (Q (.bool b) s → wpAny (model prog w) A (compareOp .Eq u u') Q E s) ∧ (Q (.bool (!b)) s → wpAny (model prog w) A (compareOp .NotEq u u') Q E s) := ⟨r.1 prog w E Q, r.2 prog w E Q⟩
theorem kl1_inv {k : Nat} {o : MO} {b : Bool} (e : kl1 H k o = some b) : ∃ u, o = .list u ∧ (H.get k).bind (kl2 u) = some b := by
  cases o with
  | list u => exact ⟨u, rfl, e⟩
  | _ => cases e
theorem kl2_inv {u : List MV} {o : MO} {b : Bool} (e : kl2 u o = some b) : ∃ v, o = .list v ∧ (if u.length = v.length then feqL (feq 6) u v else some false) = some b := by
  cases o with
  | list v => exact ⟨v, rfl, e⟩
  | _ => cases e
theorem meq_inv {v v' : MV} {b : Bool} (e : meq H v v' = some b) : (∃ k k', v = .ref k ∧ v' = .ref k' ∧ k ≠ k' ∧ (H.get k).bind (kl1 H k') = some b) ∨ feq 6 v v' = some b := by
  cases v with
  | ref k =>
    cases v' with
    | ref k' =>
      have e : (if k = k' then none else (H.get k).bind (kl1 H k')) = some b := e
      by_cases h : k = k'
      · rw [if_pos h] at e; cases e
      · rw [if_neg h] at e; exact .inl ⟨k, k', rfl, rfl, h, e⟩
    | _ => cases e
  | _ => exact .inr e
theorem meq_ok (S : SR prog w B D adr H s.heap) {v v' : MV} {b : Bool} {u u' : Value} (e : meq H v v' = some b) (x : VR D adr s.heap v u) (y : VR D adr s.heap v' u') (hu : A.units + 12 < cLine) : RC A s u u' b := by
  rcases meq_inv e with ⟨k, k', rfl, rfl, hne, e⟩ | e
  · refine bnd e fun o e1 e => ?_
    obtain ⟨l, rfl, e⟩ := kl1_inv e
    refine bnd e fun o' e2 e => ?_
    obtain ⟨l', rfl, e⟩ := kl2_inv e
    obtain ⟨a, rfl, ha, O⟩ := S.vref e1 x
    obtain ⟨a', rfl, ha', O'⟩ := S.vref e2 y
    obtain ⟨ws, hl, hv, _⟩ := O.listE
    obtain ⟨ws', hl', hv', _⟩ := O'.listE
    exact lists_rc hl.isList hl'.isList hv hv' e (by omega)
  · exact feq_rc (n := 5) e x y (by omega)
end
end Mn
end
section
set_option maxRecDepth 100000
namespace Mn
open PySem PySem.W PyProof.Rows PySem.Calls SeqAt
noncomputable def PX (prog : Program) (w : World) (B : Heap) (D : Ad) (adr : List Addr) (env : Env) (ρ : Loc) (s : Shared) (v : MV) (H' : MH) (Q : Value → Shared → Prop) : Prop :=
  ∀ adr' h' t u, Tn adr env s.heap adr' h' → St prog w B D adr' H' ρ env h' → VR D adr' h' v u → Q u ⟨h', s.gens, s.drawn, t, s.os⟩
section
variable {prog : Program} {w : World} {B : Heap} {D : Ad} {adr : List Addr} {H H' : MH} {A : Around} {E : Value → Shared → Prop} {s : Shared} {env : Env} {ρ : Loc} {Q : Value → Shared → Prop}
theorem PX.here {v : MV} (P : PX prog w B D adr env ρ s v H Q) (S : St prog w B D adr H ρ env s.heap) (t : Nat) {u : Value} (x : VR D adr s.heap v u) : Q u ⟨s.heap, s.gens, s.drawn, t, s.os⟩ :=
  P adr s.heap t u (.refl ..) S x
theorem PX.push {v : MV} (P : PX prog w B D adr env ρ s v H Q) (S : St prog w B D adr H ρ env s.heap) (t : Nat) {u : Value} {o : Obj} (x : VR D adr (s.heap.push o) v u) : Q u ⟨s.heap.push o, s.gens, s.drawn, t, s.os⟩ :=
  P adr _ t u (.grown (fun _ _ e => Heap.get?_push_of_some _ e)) (S.grown (fun _ _ e => Heap.get?_push_of_some _ e)) x
theorem keep_push {h : Heap} {o : Obj} : ∀ b ob, h.get? b = some ob → (h.push o).get? b = some ob := fun _ _ e => Heap.get?_push_of_some _ e
theorem size_push_le {h : Heap} {o : Obj} : h.objs.size ≤ (h.push o).objs.size := by rw [Heap.size_push]; omega
theorem none_size {h : Heap} : h.get? h.objs.size = none := Heap.get?_none_of_le (Nat.le_refl _)
theorem lt_push {h : Heap} {o : Obj} : h.objs.size < (h.push o).objs.size := by rw [Heap.size_push]; omega
theorem off_le {h : Heap} {a : Addr} (S : SR prog w B D adr H h) (ha : h.objs.size ≤ a) : Off B a := by
  obtain ⟨o, ho⟩ := S.st
  have h1 := Heap.lt_size (S.base _ _ ho)
  have h2 : sysModules < cStatics := by decide
  refine ⟨?_, Nat.ne_of_gt (Nat.lt_of_lt_of_le (Nat.lt_trans h2 h1) ha)⟩
  cases q : B.get? a with
  | none => rfl
  | some o => exact absurd (Heap.lt_size (S.base _ o q)) (Nat.not_lt_of_le ha)
theorem new_none (S : SR prog w B D adr H s.heap) : Off B s.heap.objs.size := off_le S (Nat.le_refl _)
theorem PX.of {v v' : MV} {H0 : MH} (e : some (v', H0) = some (v, H')) (P : PX prog w B D adr env ρ s v H' Q) : PX prog w B D adr env ρ s v' H0 Q := by
  cases e
  exact P
theorem PX.list {vs : List MV} {ws : Array Value} {v : MV} (hn : newL H vs = some (v, H')) (P : PX prog w B D adr env ρ s v H' Q) (S : St prog w B D adr H ρ env s.heap) (x : VRs D adr s.heap vs ws.toList) (t : Nat) :
    ws.size ≤ sizeLine ∧ Q (.ref s.heap.objs.size) ⟨s.heap.push { cls := .type "list", data := .seq ws }, s.gens, s.drawn, t, s.os⟩ := by
  refine gd hn fun hz hn => ?_
  have hp : adr <+: adr ++ [s.heap.objs.size] := List.prefix_append ..
  exact ⟨Nat.le_trans (Nat.le_of_eq (x.length.trans Array.length_toList).symm) (Nat.le_trans hz (by decide)),
    P.of hn _ _ _ _ (Tn.made keep_push none_size) (S.made keep_push none_size (.list vs _ ws ⟨0, Heap.get?_push_size _ rfl⟩ (x.mono hp (.of_keep keep_push)) (new_none S.sr))) (.ref _ _ (by rw [← S.sr.len]; simp))⟩
theorem PX.tuple {vs : List MV} {ws : Array Value} (P : PX prog w B D adr env ρ s (.tup vs) H Q) (S : St prog w B D adr H ρ env s.heap) (x : VRs D adr s.heap vs ws.toList) (t : Nat) :
    Q (.ref s.heap.objs.size) ⟨s.heap.push { cls := .type "tuple", data := .seq ws }, s.gens, s.drawn, t, s.os⟩ :=
  P.push S t (.tup vs _ ws ⟨_, Heap.get?_push_size _ rfl, rfl, 0, rfl⟩ (x.mono (List.prefix_refl _) (.of_keep keep_push)))
theorem intOp_ok {op : Op} {o : Operator} {i j r : Int} (e : intOp op i j = some r) (ho : trOp o = some op) {t u : Tok} (h : ∀ tk, Q (.int r tk) ⟨s.heap, s.gens, s.drawn, tk + 1, s.os⟩) :
    wpAny (model prog w) A (binaryOp o (.int i t) (.int j u)) Q E s := by
  have k : ∀ {r'}, some r' = some r → ∀ tk, Q (.int r' tk) ⟨s.heap, s.gens, s.drawn, tk + 1, s.os⟩ := fun q => by rw [Option.some.inj q]; exact h
  cases o with
  | Add => cases ho; exact add_int (k e _)
  | Sub => cases ho; exact sub_int (k e _)
  | Mult => cases ho; exact gd e fun hz e => mul_int (k e _) (IntMulOk.of_left (intBits_le_64 (by omega) (by omega)))
  | Mod =>
    cases ho
    by_cases hz : j = 0
    · rw [intOp, if_pos hz] at e; cases e
    · rw [intOp, if_neg hz] at e
      exact mod_int hz (k e _)
  | LShift => cases ho; exact gd e fun hz e => lshift_int_small hz.1 (by omega) (by omega) (k e _)
  | FloorDiv =>
    cases ho
    by_cases hz : j = 0 ∨ j.natAbs ≥ 2 ^ 30
    · rw [intOp, if_pos hz] at e; cases e
    · rw [intOp, if_neg hz] at e
      exact floordiv_int (fun q => hz (.inl q)) (k e _) (.inl (PyProof.noPylong_small (by omega)))
  | _ => cases ho
theorem numOf_ok {v : MV} {u : Value} {i : Int} {h : Heap} (x : VR D adr h v u) (e : numOf v = some i) : (∃ t, u = .int i t) ∨ ∃ b, u = .bool b ∧ i = b2i b := by
  replace x := x.inv
  cases v with
  | int j => rw [← Option.some.inj e]; exact .inl x
  | bool b => rw [← Option.some.inj e]; exact .inr ⟨b, x, by cases b <;> rfl⟩
  | _ => cases e
theorem listAt_ok (S : SR prog w B D adr H s.heap) {v : MV} {vs : List MV} {u : Value} (e : listAt H v = some vs) (x : VR D adr s.heap v u) : ∃ k a ws, v = .ref k ∧ u = .ref a ∧ adr[k]? = some a ∧ s.heap.IsList a ws ∧ VRs D adr s.heap vs ws.toList := by
  cases v with
  | ref k =>
    refine bnd e fun o e1 e => ?_
    obtain ⟨a, rfl, ha, O⟩ := S.vref e1 x
    cases o with
    | list l =>
      obtain ⟨ws, hl, hv, _⟩ := O.listE
      exact ⟨k, a, ws, rfl, rfl, ha, hl.isList, Option.some.inj e ▸ hv⟩
    | frz l =>
      obtain ⟨ws, hl, hv⟩ := O.frzE
      exact ⟨k, a, ws, rfl, rfl, ha, hl, Option.some.inj e ▸ hv⟩
    | _ => cases e
  | _ => cases e
theorem list_concat {l b : Addr} {its its2 : Array Value} (hl : s.heap.IsList l its) (hb : s.heap.IsList b its2) (hz : its.size + its2.size ≤ sizeLine)
    (h : Q (.ref s.heap.objs.size) ⟨s.heap.push { cls := .type "list", data := .seq (its.toList ++ its2.toList).toArray }, s.gens, s.drawn, s.toks, s.os⟩) :
    wpAny (model prog w) A (binaryOp .Add (.ref l) (.ref b)) Q E s := by
  obtain ⟨⟨cls, dd, data, sl⟩, ho, rfl, n, rfl⟩ := id hl
  obtain ⟨⟨cls2, dd2, data2, sl2⟩, ho2, rfl, n2, rfl⟩ := id hb
  have e : its ++ its2 = (its.toList ++ its2.toList).toArray := by simp
  exact concat_meets ⟨_, ho, rfl⟩ ⟨_, ho2, rfl⟩ noFill_list_add seq_list_add PySem.F.slot_list_add PySem.F.entry_list_add (PySem.F.args_list_add_2 _ _) (list_addW l b its its2 n n2 dd dd2 sl sl2 hz) ⟨ho, ho2, by rw [e]; exact h⟩
theorem op_add {o : Operator} (ho : trOp o = some .add) : o = .Add := by cases o <;> first | rfl | cases ho
theorem op_sub {o : Operator} (ho : trOp o = some .sub) : o = .Sub := by cases o <;> first | rfl | cases ho
theorem subB_ok {o : Operator} {a b v : MV} {ua ub : Value} (e : subB H a b = some (v, H')) (ho : trOp o = some .sub) (S : St prog w B D adr H ρ env s.heap)
    (xa : VR D adr s.heap a ua) (xb : VR D adr s.heap b ub) (P : PX prog w B D adr env ρ s v H' Q) : wpAny (model prog w) A (binaryOp o ua ub) Q E s := by
  obtain rfl := op_sub ho
  refine bnd e fun i e1 e => bnd e fun j e2 e => ?_
  have P := P.of e
  rcases numOf_ok xa e1 with ⟨t, rfl⟩ | ⟨p, rfl, rfl⟩
  · rcases numOf_ok xb e2 with ⟨t', rfl⟩ | ⟨q, rfl, rfl⟩
    · exact sub_int (P.here S _ (.int _ _))
    · exact IntBool.sub_int_bool (P.here S _ (.int _ _))
  · rcases numOf_ok xb e2 with ⟨t', rfl⟩ | ⟨q, rfl, rfl⟩
    · exact IntBool.sub_bool_int (P.here S _ (.int _ _))
    · exact sub_bool (P.here S _ (.int _ _))
theorem ifs {c : Prop} [Decidable c] {α : Type} {o : Option α} {r : α} (e : (if c then o else none) = some r) : c ∧ o = some r := gd e fun h e => ⟨h, e⟩
theorem binop_ok {op : Op} {o : Operator} {a b v : MV} {ua ub : Value} (e : binop op a b H = some (v, H')) (ho : trOp o = some op) (S : St prog w B D adr H ρ env s.heap)
    (xa : VR D adr s.heap a ua) (xb : VR D adr s.heap b ub) (P : PX prog w B D adr env ρ s v H' Q) : wpAny (model prog w) A (binaryOp o ua ub) Q E s := by
  have sub : ∀ {a b}, (if op = .sub then subB H a b else none) = some (v, H') → VR D adr s.heap a ua → VR D adr s.heap b ub → wpAny (model prog w) A (binaryOp o ua ub) Q E s :=
    fun e xa xb => gd e fun h e => subB_ok e (h ▸ ho) S xa xb P
  cases a with
  | ref i =>
    cases b with
    | ref j =>
      obtain ⟨rfl, e⟩ := ifs (show (if op = .add then (listAt H (.ref i)).bind (kad H j) else none) = some (v, H') from e)
      obtain rfl := op_add ho
      refine bnd e fun us e1 e => bnd e fun vs e2 e => ?_
      obtain ⟨k, a, ws, _, rfl, _, hl, hv⟩ := listAt_ok S.sr e1 xa
      obtain ⟨k', b, ws', _, rfl, _, hl', hv'⟩ := listAt_ok S.sr e2 xb
      have P' := P.list (ws := (ws.toList ++ ws'.toList).toArray) e S (hv.append hv') s.toks
      exact list_concat hl hl' (by simpa using P'.1) P'.2
    | _ => cases e
  | int i =>
    cases b with
    | int j =>
      refine bnd e fun r e1 e => ?_
      obtain ⟨t, rfl⟩ := xa.inv
      obtain ⟨t', rfl⟩ := xb.inv
      exact intOp_ok e1 ho fun tk => (P.of e).here S _ (.int _ _)
    | _ => exact sub e xa xb
  | _ => exact sub e xa xb
end
end Mn
end
section
set_option maxRecDepth 100000
namespace Mn
open PySem PySem.W PyProof.Rows PySem.Calls SeqAt
section
variable {prog : Program} {w : World} {B : Heap} {D : Ad} {adr : List Addr} {H H' : MH} {A : Around} {E : Value → Shared → Prop} {s : Shared} {env : Env} {ρ : Loc} {Q : Value → Shared → Prop}
theorem kind_miss {es : List (MV × MV)} {α : Type} {R : MV → α → Prop} {h : Heap} {kvs : List (α × Value)} {k : MV} (hR : ∀ k' b, R k' b → sameKind k k' = false) (hk : okKey k es = true) (he : ER D adr h R es kvs) : es = [] := by
  cases he with
  | nil => rfl
  | cons h1 _ _ =>
    exfalso
    unfold okKey at hk
    rw [List.all_cons, hR _ _ h1, Bool.false_and, Bool.and_false] at hk
    cases hk
theorem dict_S {es : List (MV × MV)} {a : Addr} (O : OR prog w B D adr s.heap (.dict es) a) (n : Nat) (hk : okKey (.str n) es = true) :
    ∃ kvs, s.heap.DictOf (strKind prog w) a kvs ∧ ER D adr s.heap SK es kvs ∧ Off B a := by
  obtain ⟨⟨kvs, hd, he⟩ | ⟨kvs, hd, he⟩, hb⟩ := O.inv
  · exact ⟨kvs, hd, he, hb⟩
  · obtain rfl := kind_miss (k := .str n) (fun k' b q => by cases q; rfl) hk he
    obtain rfl : kvs = [] := he.inv
    exact ⟨[], empty_kinds hd, .nil, hb⟩
theorem dict_I {es : List (MV × MV)} {a : Addr} (O : OR prog w B D adr s.heap (.dict es) a) (n : Int) (hk : okKey (.int n) es = true) :
    ∃ kvs, s.heap.DictOf (intKind prog w) a kvs ∧ ER D adr s.heap IK es kvs ∧ Off B a := by
  obtain ⟨⟨kvs, hd, he⟩ | ⟨kvs, hd, he⟩, hb⟩ := O.inv
  · obtain rfl := kind_miss (k := .int n) (fun k' b q => by cases q.2; rfl) hk he
    obtain rfl : kvs = [] := he.inv
    exact ⟨[], empty_kinds hd, .nil, hb⟩
  · exact ⟨kvs, hd, he, hb⟩
theorem strIs (z : Str) (t : Tok) : (strKind prog w).is z (.str z t) = true := by simp [PySem.strKind, Value.isStrOf]
theorem intIs (i : Int) (t : Tok) : (intKind prog w).is i (.int i t) = true := intKind_is prog w i t
structure KeyOk (prog : Program) (w : World) (B : Heap) (D : Ad) (adr : List Addr) (h : Heap) (es : List (MV × MV)) (a : Addr) (k : MV) (uk : Value) (α : Type) [DecidableEq α] (knd : KeyKind prog w α) (kvs : List (α × Value)) (q : α) : Prop where
  hd : h.DictOf knd a kvs
  is_ : knd.is q uk = true
  off : Off B a
  len : es.length = kvs.length
  get : ∀ v, dGet k es = some v → ∃ u, valueAt kvs q = some u ∧ VR D adr h v u
  miss : dGet k es = none → valueAt kvs q = none
  put : ∀ v u, VR D adr h v u → ∀ a' h', Off B a' → SoftKeep h h' → h'.DictOf knd a' (stored kvs q u) → OR prog w B D adr h' (.dict (dPut k v es)) a'
theorem key_ok {es : List (MV × MV)} {a : Addr} (O : OR prog w B D adr s.heap (.dict es) a) {k : MV} {uk : Value} (x : VR D adr s.heap k uk) (hk : okKey k es = true) :
    ∃ (α : Type) (_ : DecidableEq α) (knd : KeyKind prog w α) (kvs : List (α × Value)) (q : α), KeyOk prog w B D adr s.heap es a k uk α knd kvs q := by
  replace x := x.inv
  cases k with
  | str n =>
    obtain ⟨z, t, ok, rfl, rfl⟩ := x
    obtain ⟨kvs, hd, he, hb⟩ := dict_S O _ hk
    have hq : ∀ k b, SK k b → keyEq k (.str (code z)) = decide (b = z) := fun k b h => keyEq_S h ok
    have hn := hd
    obtain ⟨_, _, _, _, _, _, _, _, hn⟩ := hn
    exact ⟨Str, inferInstance, _, kvs, z, hd, strIs z t, hb, he.length, (dGet_at hq he).1, (dGet_at hq he).2, fun v u x a' h' hb' sk hd' => .dictS _ _ _ hd' ((dPut_at (R := SK) ⟨ok, rfl⟩ hq x he hn).mono (List.prefix_refl _) sk) hb'⟩
  | int i =>
    obtain ⟨t, rfl⟩ := x
    obtain ⟨kvs, hd, he, hb⟩ := dict_I O _ hk
    have hq : ∀ k b, IK k b → keyEq k (.int i) = decide (b = i) := fun k b h => keyEq_I h
    have hn := hd
    obtain ⟨_, _, _, _, _, _, _, _, hn⟩ := hn
    exact ⟨Int, inferInstance, _, kvs, i, hd, intIs i t, hb, he.length, (dGet_at hq he).1, (dGet_at hq he).2, fun v u x a' h' hb' sk hd' => .dictI _ _ _ hd' ((dPut_at (R := IK) (show IK (.int i) i from rfl) hq x he hn).mono (List.prefix_refl _) sk) hb'⟩
  | _ => cases hk
theorem KeyOk.isSome {es : List (MV × MV)} {a : Addr} {k : MV} {uk : Value} {α : Type} [DecidableEq α] {knd : KeyKind prog w α} {kvs : List (α × Value)} {q : α} (x : KeyOk prog w B D adr s.heap es a k uk α knd kvs q) : (valueAt kvs q).isSome = (dGet k es).isSome := by
  cases h : dGet k es with
  | none => rw [x.miss h]; rfl
  | some v => obtain ⟨u, hu, _⟩ := x.get v h; rw [hu]; rfl
noncomputable def dec : Value → MV
  | .int i _ => .int i
  | .str z _ => .str (code z)
  | _ => .none
theorem feq_key {x v : MV} {b : Bool} {u : Value} {h : Heap} (hx : isKey x = true) (e : feq 6 v x = some b) (y : VR D adr h v u) : dec u = v := by
  replace y := y.inv
  cases v with
  | none => rw [show u = .none from y]; rfl
  | int i => obtain ⟨t, rfl⟩ := y; rfl
  | str n => obtain ⟨z, t, _, rfl, rfl⟩ := y; rfl
  | bool p => cases x <;> first | (cases e; done) | (cases hx; done)
  | tup vs => cases x <;> first | (cases e; done) | (cases hx; done)
  | _ => cases e
theorem any_ok {x : MV} {ux : Value} (hx : isKey x = true) (yx : VR D adr s.heap x ux) (hu : A.units + 10 < cLine) {vs : List MV} {us : List Value} (xs : VRs D adr s.heap vs us) : ∀ c, anyEq x vs = some c →
    (∀ y ∈ us, EqAt A s y ux ((feq 6 (dec y) x).getD false)) ∧ us.any (fun y => (feq 6 (dec y) x).getD false) = c :=
  xs.ind (motive := fun vs us => ∀ c, anyEq x vs = some c → (∀ y ∈ us, EqAt A s y ux ((feq 6 (dec y) x).getD false)) ∧ us.any (fun y => (feq 6 (dec y) x).getD false) = c)
    (fun c e => ⟨fun _ h => (nomatch h), Option.some.inj e⟩) fun v u vs us hv _ ih c e => by
    refine bnd e fun b e1 e => bnd e fun c' e2 e => ?_
    obtain ⟨i1, i2⟩ := ih c' e2
    have d := feq_key hx e1 hv
    refine ⟨fun y hy => ?_, ?_⟩
    · rcases List.mem_cons.mp hy with rfl | hy
      · rw [d, e1]
        exact feq_ok 6 e1 hv yx (by omega)
      · exact i1 y hy
    · rw [List.any_cons, d, e1, i2]
      exact Option.some.inj e
theorem contains_ok (S : SR prog w B D adr H s.heap) {x c : MV} {r : Bool} {ux uc : Value} (e : contains H x c = some r) (xx : VR D adr s.heap x ux) (xc : VR D adr s.heap c uc) (hu : A.units + 12 < cLine) :
    ((∀ t, Q (.bool r) ⟨s.heap, s.gens, s.drawn, t, s.os⟩) → wpAny (model prog w) A (compareOp .In ux uc) Q E s) ∧ ((∀ t, Q (.bool (!r)) ⟨s.heap, s.gens, s.drawn, t, s.os⟩) → wpAny (model prog w) A (compareOp .NotIn ux uc) Q E s) := by
  refine gd e fun hx e => ?_
  cases c with
  | tup vs =>
    obtain ⟨a, ws, rfl, ht, hv⟩ := xc.inv
    obtain ⟨i1, i2⟩ := any_ok (A := A.in1) hx xx (by show A.units + 1 + 10 < cLine; omega) hv _ e
    rw [Array.any_toList] at i2
    rw [← i2]
    exact ⟨fun hQ => in_tupleAt _ ht (fun y hy => i1 y (Array.mem_toList_iff.mpr hy)) (hQ s.toks), fun hQ => notIn_tupleAt _ ht (fun y hy => i1 y (Array.mem_toList_iff.mpr hy)) (hQ s.toks)⟩
  | ref k =>
    refine bnd e fun o e1 e => ?_
    obtain ⟨a, rfl, ha, O⟩ := S.vref e1 xc
    cases o with
    | dict es =>
      refine gd e fun hk e => ?_
      obtain ⟨α, _, knd, kvs, q, K⟩ := key_ok O xx hk
      rw [← Option.some.inj e, ← K.isSome]
      exact ⟨fun hQ => wpAny_in_of K.is_ (not_sm K.off) K.hd.mapOf (hQ _), fun hQ => wpAny_notIn_of K.is_ (not_sm K.off) K.hd.mapOf (hQ _)⟩
    | _ => cases e
  | _ => cases e
theorem none_beq {v : MV} {u : Value} {h : Heap} (x : VR D adr h v u) (hv : noBi v = true) : plainIs u .none = true ∧ (u == Value.none) = isNone v := by
  cases x with
  | bi => cases hv
  | _ => exact ⟨rfl, rfl⟩
theorem isNo_inv {a b : MV} {r : Bool} (e : isNo a b = some r) : b = .none ∧ noBi a = true ∧ isNone a = r := by
  cases b with
  | none => exact gd e fun h e => ⟨rfl, h, Option.some.inj e⟩
  | _ => cases e
theorem int2_ok {f : Int → Int → Bool} {a b : MV} {r : Bool} {ua ub : Value} {h : Heap} (e : int2 f a b = some r) (xa : VR D adr h a ua) (xb : VR D adr h b ub) : ∃ i j t t', ua = .int i t ∧ ub = .int j t' ∧ f i j = r := by
  refine bnd e fun i e1 e => bnd e fun j e2 e => ?_
  obtain ⟨t, rfl⟩ := asInt_vr e1 xa
  obtain ⟨t', rfl⟩ := asInt_vr e2 xb
  exact ⟨i, j, t, t', rfl, rfl, Option.some.inj e⟩
noncomputable def EqW (prog : Program) (w : World) (A : Around) (s : Shared) (y x : Value) : Prop := ∀ (E : Value → Shared → Prop) (Q : Bool → Shared → Prop), Q true s → wpAny (model prog w) A (eqBool y x) Q E s
theorem EqW.refs {a a' : Addr} (hne : a ≠ a') (h : ∀ (E : Value → Shared → Prop) (Q : Value → Shared → Prop), Q (.bool true) s → wpAny (model prog w) A (richCompare .Eq (.ref a) (.ref a')) Q E s) : EqW prog w A s (.ref a) (.ref a') := fun E Q hq => by
  unfold eqBool
  exact wpAny_holding (wpAny_ite_split (fun q => absurd (by have := eq_of_beq q; injection this) hne) fun _ => wpAny_bind (h E _ (wpAny_truthy_bool hq)))
theorem same_hits {es fs : List (MV × MV)} {ka kb : List (Str × Value)} (x : ER D adr s.heap SK es ka) (y : ER D adr s.heap SK fs kb) (hu : A.units + 6 < cLine) : ∀ {b : Bool}, dSame es fs = some b → KeqHits A s kb ka true := by
  induction x with
  | nil => exact fun _ => .nil
  | cons hk hv _ ih =>
    intro b e
    refine bnd e fun u e1 e => bnd e fun c e2 e => gd e fun hc e => ?_
    obtain ⟨u', h1, h2⟩ := (dGet_at (SK_eq hk) y).1 u e1
    exact .hit (e := true) (b := true) h1 (feq_ok 6 (hc.1 ▸ e2) hv h2 hu) (ih e)
theorem sm_ok (S : SR prog w B D adr H s.heap) {v u : MV} {uv uu : Value} (e : sm1 H v u = some true) (x : VR D adr s.heap v uv) (y : VR D adr s.heap u uu) (hu : A.units + 9 < cLine) : EqW prog w A s uv uu := by
  refine bnd e fun k e1 e => bnd e fun k' e2 e => ?_
  rw [asRef_inv e1] at x
  rw [asRef_inv e2] at y
  by_cases hk : k = k'
  · rw [if_pos hk] at e; cases e
  · rw [if_neg hk] at e
    refine bnd e fun o e3 e => bnd e fun o' e4 e => ?_
    obtain ⟨a, rfl, ha, O⟩ := S.vref e3 x
    obtain ⟨a', rfl, ha', O'⟩ := S.vref e4 y
    have hne : a ≠ a' := fun q => hk (nodup_idx S.nd ha (q ▸ ha'))
    cases o with
    | list l =>
      cases o' with
      | list l' =>
        refine gd e fun hl e => ?_
        obtain ⟨ws, hw, hv, _⟩ := O.listE
        obtain ⟨ws', hw', hv', _⟩ := O'.listE
        exact .refs hne fun E Q hq => (lists_rc hw.isList hw'.isList hv hv' ((if_pos hl).trans e) (by omega)).1 prog w E Q hq
      | _ => cases e
    | dict es =>
      cases o' with
      | dict fs =>
        refine gd e fun hl e => ?_
        obtain ⟨ka, hd, he, hb⟩ := dict_S O _ hl.2.1
        obtain ⟨kb, hd', he', hb'⟩ := dict_S O' _ hl.2.2
        have hits := same_hits (A := A.in1) he he' (by show A.units + 1 + 6 < cLine; omega) e
        have hlen : (ka.length == kb.length && true) = true := by rw [← he.length, ← he'.length, hl.1, beq_self_eq_true]; rfl
        exact .refs hne fun E Q hq => keq_eq (not_sm hb) (not_sm hb') hd hd' (by omega) (fun _ => hits) (by rw [hlen]; exact hq)
      | _ => cases e
    | _ => cases e
theorem smL_ok (S : SR prog w B D adr H s.heap) (hu : A.units + 9 < cLine) : ∀ {vs us : List MV} {xs ys : List Value} {b : Bool}, smL H vs us = some b → VRs D adr s.heap vs xs → VRs D adr s.heap us ys → xs.length = ys.length ∧ ∀ (j : Nat) (x y : Value), xs[j]? = some x → ys[j]? = some y → EqW prog w A s x y
  | [], [], xs, ys, b, e, x, y => by
    rw [show xs = [] from x.inv, show ys = [] from y.inv]
    exact ⟨rfl, fun j _ _ h => nomatch h⟩
  | [], _ :: _, _, _, _, e, _, _ => nomatch e
  | _ :: _, [], _, _, _, e, _, _ => nomatch e
  | v :: vs, u :: us, xs, ys, b, e, x, y => by
    refine bnd e fun c e1 e => gd e fun hc e => ?_
    obtain ⟨x1, xr, rfl, hx, hxr⟩ := x.inv
    obtain ⟨y1, yr, rfl, hy, hyr⟩ := y.inv
    obtain ⟨h1, h2⟩ := smL_ok S hu e hxr hyr
    refine ⟨congrArg Nat.succ h1, fun j a b ha hb => ?_⟩
    cases j with
    | zero => rw [← Option.some.inj ha, ← Option.some.inj hb]; exact sm_ok S (hc ▸ e1) hx hy hu
    | succ j => exact h2 j a b ha hb
theorem tuple_same_ne {l b : Addr} {xs ys : Array Value} (hl : s.heap.IsTuple l xs) (hb : s.heap.IsTuple b ys) (hz : xs.size = ys.size) (he : ∀ (j : Nat) (x y : Value), xs.toList[j]? = some x → ys.toList[j]? = some y → EqW prog w A.in1 s x y) (hu : A.units < cLine) (h : Q (.bool false) s) : wpAny (model prog w) A (compareOp .NotEq (.ref l) (.ref b)) Q E s := by
  refine wpAny_richCompare_same_room (op := .NotEq) hl.typeIs hb.typeIs PySem.F.slot_tuple_ne (wpAny_call_entry PySem.F.slot_tuple_ne hl.typeIs PySem.F.entry_tuple_ne ?_ (PySem.F.args_tuple_ne_2 _ _)) hu
  have hp : ∀ p ∈ xs.toList.zip ys.toList, EqW prog w A.in1 s p.1 p.2 := fun p hp => by
    obtain ⟨j, hj, q⟩ := List.getElem_of_mem hp
    rw [List.length_zip] at hj
    rw [List.getElem_zip] at q
    rw [← q]
    exact he j _ _ (List.getElem?_eq_getElem (by omega)) (List.getElem?_eq_getElem (by omega))
  obtain ⟨⟨c1, dd, d1, sl⟩, hl, rfl, n, rfl⟩ := hl
  obtain ⟨⟨c2, dd2, d2, sl2⟩, hb, rfl, n2, rfl⟩ := hb
  have f2 := AutoSeq1.sub_tuple_tuple
  wp_walk using AutoSeq1.wpAny_loadPart' hl, AutoSeq1.wpAny_loadPart' hb, wpAny_forIn_list _ (fun rest b s' => b.1 = none ∧ s' = s ∧ ∀ p ∈ rest, EqW prog w A.in1 s p.1 p.2) _
  case turn =>
    rintro ⟨x, y⟩ rest b s' ⟨_, rfl, hI⟩
    refine wpAny_bind (hI (x, y) (.head _) _ _ ?_)
    show wpAny _ _ (if (!true) = true then _ else _) _ _ _
    rw [if_neg (by decide)]
    exact wpAny_pure ⟨rfl, rfl, fun p hp => hI p (.tail _ hp)⟩
  case fin =>
    rintro ⟨b1, b2⟩ s' ⟨hb', rfl, _⟩
    obtain rfl : b1 = none := hb'
    refine wpAny_pure ⟨_, rfl, nofun, ?_⟩
    show Q (.bool (xs.size != ys.size)) _
    rw [hz, bne_self_eq_false]
    exact h
  case h => exact ⟨rfl, rfl, hp⟩
theorem tne_ok (S : SR prog w B D adr H s.heap) {v u : MV} {r : Bool} {uv uu : Value} (e : tne H v u = some r) (x : VR D adr s.heap v uv) (y : VR D adr s.heap u uu) (hu : A.units + 12 < cLine) (h : Q (.bool r) s) : wpAny (model prog w) A (compareOp .NotEq uv uu) Q E s := by
  have hm : ∀ {e' : Option Bool}, (meq H v u).bind (fun x => some (!x)) = some r → wpAny (model prog w) A (compareOp .NotEq uv uu) Q E s := fun {_} e => bnd e fun b e1 e => (meq_ok S e1 x y hu).both.2 (Option.some.inj e ▸ h)
  cases v with
  | tup a =>
    refine bnd e fun b e1 e => bnd e fun c e2 e => ?_
    rw [asTup_inv e1] at y
    obtain ⟨l, ws, rfl, ht, hv⟩ := x.inv
    obtain ⟨l', ws', rfl, ht', hv'⟩ := y.inv
    obtain ⟨h1, h2⟩ := smL_ok (A := A.in1) S (by show A.units + 1 + 9 < cLine; omega) e2 hv hv'
    exact tuple_same_ne ht ht' (by simpa using h1) h2 (by omega) (Option.some.inj e ▸ h)
  | _ => exact hm (e' := none) e
theorem compare_ok {op : Co} {o : CmpOp} {a b : MV} {r : Bool} {ua ub : Value} (e : compare op a b H = some r) (ho : trCo o = some op) (S : SR prog w B D adr H s.heap)
    (xa : VR D adr s.heap a ua) (xb : VR D adr s.heap b ub) (hu : A.units + 12 < cLine) (hQ : ∀ t, Q (.bool r) ⟨s.heap, s.gens, s.drawn, t, s.os⟩) : wpAny (model prog w) A (compareOp o ua ub) Q E s := by
  cases o with
  | Eq => cases ho; exact (meq_ok S e xa xb hu).both.1 (hQ s.toks)
  | NotEq => cases ho; exact tne_ok S e xa xb hu (hQ s.toks)
  | Lt => cases ho; obtain ⟨i, j, t, t', rfl, rfl, rfl⟩ := int2_ok e xa xb; exact lt_int (hQ s.toks)
  | LtE => cases ho; obtain ⟨i, j, t, t', rfl, rfl, rfl⟩ := int2_ok e xa xb; exact le_int (hQ s.toks)
  | Gt => cases ho; obtain ⟨i, j, t, t', rfl, rfl, rfl⟩ := int2_ok e xa xb; exact gt_int (hQ s.toks)
  | GtE => cases ho; obtain ⟨i, j, t, t', rfl, rfl, rfl⟩ := int2_ok e xa xb; exact ge_int (hQ s.toks)
  | Is =>
    cases ho
    obtain ⟨rfl, h, rfl⟩ := isNo_inv e
    obtain ⟨h1, h2⟩ := none_beq xa h
    obtain rfl : ub = .none := xb.inv
    exact wpAny_is_plain h1 (h2 ▸ hQ s.toks)
  | IsNot =>
    cases ho
    refine bnd e fun x e1 e => ?_
    obtain ⟨rfl, h, rfl⟩ := isNo_inv e1
    obtain ⟨h1, h2⟩ := none_beq xa h
    obtain rfl : ub = .none := xb.inv
    exact wpAny_isNot_plain h1 (h2 ▸ Option.some.inj e ▸ hQ s.toks)
  | In => cases ho; exact (contains_ok S e xa xb hu).1 hQ
  | NotIn => cases ho; exact bnd e fun x e1 e => (contains_ok S e1 xa xb hu).2 (Option.some.inj e ▸ hQ)
end
end Mn
end
section
set_option maxRecDepth 100000
namespace Mn
open PySem PySem.W PyProof.Rows PySem.Calls SeqAt
section
variable {prog : Program} {w : World} {B : Heap} {D : Ad} {adr : List Addr} {H H' : MH} {A : Around} {E : Value → Shared → Prop} {s : Shared} {env : Env} {ρ : Loc} {Q : Value → Shared → Prop}
theorem subscripted_plain {slice : PySem.Expr} (h : isSlc slice = false) (o i : Value) : subscripted slice false o i = operate [o, i] (getItem o i) := by
  cases slice <;> first | rfl | cases h
theorem idx_ok {vs : List MV} {us : List Value} {h : Heap} {i : Int} {v : MV} (hv : VRs D adr h vs us) (e : idx vs i = some v) :
    0 ≤ i ∧ i < 2 ^ 63 ∧ ∃ u, us[i.toNat]? = some u ∧ VR D adr h v u := by
  refine gd e fun h0 e => ?_
  obtain ⟨u, hu, x⟩ := hv.get e
  exact ⟨h0.1, Int.lt_trans h0.2 (by decide), u, hu, x⟩
theorem seqIndex_ok {i : Int} {n : Nat} (h0 : 0 ≤ i) (hn : i.toNat < n) : seqIndex? i n = some i.toNat := by
  unfold seqIndex?
  simp only [show ¬ i < 0 by omega, if_false]
  rw [if_pos (by simp; omega)]
theorem list_item {a : Addr} {ws : Array Value} {vs : List MV} {i : Int} {t : Tok} {v : MV} (hl : s.heap.IsList a ws) (hv : VRs D adr s.heap vs ws.toList) (e : idx vs i = some v) (hQ : ∀ u, VR D adr s.heap v u → Q u s) {value slice : PySem.Expr} (hn : isSlc slice = false) :
    wpAny (model prog w) A (subscriptTail value slice (.ref a) (.int i t)) Q E s := by
  obtain ⟨h0, h2, u, hu, x⟩ := idx_ok hv e
  rw [Array.getElem?_toList] at hu
  exact tail_any hl.typeIs slot_list_getitem.lookup (wpAny_getItem_list hl h0 h2 hu (hQ u x)) (subscripted_plain hn _ _)
theorem listL_item {a : Addr} {ws : Array Value} {vs : List MV} {i : Int} {t : Tok} {v : MV} (hl : s.heap.IsList a ws) (hv : VRs D adr s.heap vs ws.toList) (e : idxL vs i = some v) (hQ : ∀ u, VR D adr s.heap v u → Q u s) {value slice : PySem.Expr} (hn : isSlc slice = false) :
    wpAny (model prog w) A (subscriptTail value slice (.ref a) (.int i t)) Q E s := by
  unfold idxL at e
  by_cases hi : i = -1
  · rw [if_pos hi, List.getLast?_eq_getElem?] at e
    obtain ⟨u, hu, x⟩ := hv.get e
    rw [hv.length, Array.getElem?_toList, Array.length_toList] at hu
    have hz := (Array.getElem?_eq_some_iff.mp hu).1
    have e2 : (i + (ws.size : Int)).toNat = ws.size - 1 := by omega
    exact tail_any hl.typeIs slot_list_getitem.lookup (wpAny_getItem_list_neg hl (by omega) (by omega) (by omega) (e2 ▸ hu) (hQ u x)) (subscripted_plain hn _ _)
  · rw [if_neg hi] at e
    exact list_item hl hv e hQ hn
theorem item_ok (S : SR prog w B D adr H s.heap) {o i v : MV} {uo ui : Value} (e : item H o i = some v) (xo : VR D adr s.heap o uo) (xi : VR D adr s.heap i ui) {value slice : PySem.Expr} (hn : isSlc slice = false)
    (hQ : ∀ u t, VR D adr s.heap v u → Q u ⟨s.heap, s.gens, s.drawn, t, s.os⟩) : wpAny (model prog w) A (subscriptTail value slice uo ui) Q E s := by
  cases o with
  | tup vs =>
    refine bnd e fun i e1 e => ?_
    obtain ⟨t, rfl⟩ := asInt_vr e1 xi
    obtain ⟨a, ws, rfl, ht, hv⟩ := xo.inv
    obtain ⟨h0, h2, u, hu, x⟩ := idx_ok hv e
    rw [Array.getElem?_toList] at hu
    exact tail_any ht.typeIs slot_tuple_getitem.lookup (PyProof.Rows.getItem_tuple ht (Int.le_trans (by decide) h0) h2 (seqIndex_ok h0 (Array.getElem?_eq_some_iff.mp hu).1) hu (hQ u s.toks x)) (subscripted_plain hn _ _)
  | ref k =>
    refine bnd e fun ob e1 e => ?_
    obtain ⟨a, rfl, ha, O⟩ := S.vref e1 xo
    cases ob with
    | list vs =>
      refine bnd e fun i e2 e => ?_
      obtain ⟨t, rfl⟩ := asInt_vr e2 xi
      obtain ⟨ws, hl, hv, _⟩ := O.listE
      exact listL_item hl.isList hv e (fun u x => hQ u s.toks x) hn
    | frz vs =>
      refine bnd e fun i e2 e => ?_
      obtain ⟨t, rfl⟩ := asInt_vr e2 xi
      obtain ⟨ws, hl, hv⟩ := O.frzE
      exact list_item hl hv e (fun u x => hQ u s.toks x) hn
    | dict es =>
      refine gd e fun hk e => ?_
      obtain ⟨α, _, knd, kvs, q, K⟩ := key_ok O xi hk
      obtain ⟨u, hu, x⟩ := K.get v e
      exact tail_any K.hd.typeIs slot_dict_getitem.lookup (wpAny_getItem_of K.is_ K.hd.mapOf hu (hQ u _ x)) (subscripted_plain hn _ _)
    | _ => cases e
  | _ => cases e
theorem wpAny_setItem_plain {l : Addr} {items : Array Value} {k : Int} {t : Tok} {v : Value} {Q : Unit → Shared → Prop} (hl : s.heap.PlainList l items)
    (h0 : 0 ≤ k) (hfit : k < 2 ^ 63) (hn : k < items.size)
    (hQ : ∀ h', h'.PlainList l (items.setIfInBounds k.toNat v) → Heap.SameBut l s.heap h' → Q () { s with heap := h' }) :
    wpAny (model prog w) A (PySem.setItem (.ref l) (.int k t) v) Q E s := by
  obtain ⟨ne, ho⟩ := hl
  have hl : s.heap.IsList l items := ⟨_, ho, rfl, ne, rfl⟩
  have hd : ({ cls := .type "list", data := .seq items ne } : Obj).data = .seq items ne := rfl
  unfold PySem.setItem
  try with_reducible refine wpAny_holding ?_
  first | refine wpAny_bind (wpAny_pure ?_) | skip
  refine wpAny_bind (wpAny_sequenceKey hl.typeIs (by decide) ?_)
  refine wpAny_bind (wpAny_callSpecial?_slot (name := Str.ofString "__setitem__") hl.typeIs slot_list_setitem
    (wpAny_call_entry slot_list_setitem hl.typeIs entry_list_setitem ?_ (args_list_setitem _ _ _)))
  show wpAny _ _ (Builtin.List.listSubscript? (.int k t) >>= _) _ _ s
  refine wpAny_bind (wpAny_listSubscript_int (fitsIndex_of h0 hfit) ?_)
  clear hfit
  obtain ⟨j, rfl⟩ := Int.eq_ofNat_of_zero_le h0
  have hj : j < items.size := by omega
  have hx' : items[j]? = some items[j] := Array.getElem?_eq_getElem hj
  show wpAny _ _ ((seqItemAt l j >>= fun r => pure (r.map (j, ·))) >>= _) _ _ s
  refine wpAny_bind (wpAny_bind (wpAny_seqItemAt ho hd (wpAny_pure ?_)))
  rw [hx']
  show wpAny _ _ (setSeqItemAt l j v >>= _) _ _ s
  have hm : ∃ n', Obj.mapSeq (·.setIfInBounds j v) { cls := .type "list", data := .seq items ne } = { cls := .type "list", data := .seq (items.setIfInBounds j v) n' } := by
    unfold Obj.mapSeq
    exact ⟨_, rfl⟩
  obtain ⟨n', hm⟩ := hm
  have hfin : (s.heap.update l (Obj.mapSeq (·.setIfInBounds j v))).PlainList l (items.setIfInBounds j v) :=
    ⟨n', by rw [Heap.get?_update_self _ ho (by rw [hm]; rfl), hm]⟩
  refine wpAny_bind (wpAny_setSeqItemAt ho hd ?_)
  first
    | exact wpAny_bind (wpAny_pure (wpAny_pure ⟨.none, rfl, wpAny_pure (hQ _ hfin (Heap.SameBut.update ..))⟩))
    | exact wpAny_pure ⟨.none, rfl, wpAny_pure (hQ _ hfin (Heap.SameBut.update ..))⟩
end
end Mn
end
section
set_option maxRecDepth 100000
namespace Mn
open PySem PySem.W PyProof.Rows PySem.Calls SeqAt
noncomputable def PU (prog : Program) (w : World) (B : Heap) (D : Ad) (adr : List Addr) (env : Env) (ρ : Loc) (s : Shared) (H' : MH) (Q : Unit → Shared → Prop) : Prop :=
  ∀ adr' h' t, Tn adr env s.heap adr' h' → St prog w B D adr' H' ρ env h' → Q () ⟨h', s.gens, s.drawn, t, s.os⟩
structure ClsOk (K : Frag) (D : Ad) (P : Pg) (c : Nat) : Prop where
  makes : makesIn K (D.ca c) = true
  keep : keepIn K (.ref (D.ca c)) = true
  ga : findIn K (.ref (D.ca c)) "__getattribute__" = some (some (.builtin "object.__getattribute__"))
  gt : findIn K (.ref (D.ca c)) "__getattr__" = some none
  sa : findIn K (.ref (D.ca c)) "__setattr__" = some (some (.builtin "object.__setattr__"))
  plain : plainOver K (D.ca c) = true
  has : (clsIn K (D.ca c)).any (·.hasDict) = true
  atr : ∀ z, okS z → P.atr c (code z) = true → findIn K (.ref (D.ca c)) z = some none
  meth : ∀ z f, okS z → P.meth c (code z) = some f → findIn K (.ref (D.ca c)) z = some (some (.ref (D.fa f))) ∧ typeIn K (.ref (D.fa f)) = some (.type "function") ∧ copiedNames.contains z = false
section
variable {prog : Program} {w : World} {B : Heap} {D : Ad} {adr : List Addr} {H H' : MH} {A : Around} {E : Value → Shared → Prop} {s : Shared} {env : Env} {ρ : Loc} {Q : Value → Shared → Prop}
theorem PU.turn {Q : Unit → Shared → Prop} {k : Nat} {a : Addr} {o o₀ : MO} {h' : Heap} (P : PU prog w B D adr env ρ s (H.upd k o) Q) (S : St prog w B D adr H ρ env s.heap) (hk : adr[k]? = some a) (O₀ : OR prog w B D adr s.heap o₀ a)
    (hs : Heap.SameBut a s.heap h') (hb : Off B a) (O : SoftKeep s.heap h' → OR prog w B D adr h' o a) (t : Nat) : Q () ⟨h', s.gens, s.drawn, t, s.os⟩ :=
  P adr h' t (.turned hk hs (O (soft_of (l := [a]) (fun b q => by rw [List.mem_singleton.mp q]; exact O₀.hard) fun b ob e n => (hs.2 b fun z => n (by rw [z]; exact .head _)).trans e)).at) (S.turned hk O₀.hard hs hb O)
theorem setItem_ok {Q : Unit → Shared → Prop} {o i v : MV} {uo ui uv : Value} (e : setItem H o i v = some H') (S : St prog w B D adr H ρ env s.heap) (xo : VR D adr s.heap o uo) (xi : VR D adr s.heap i ui) (xv : VR D adr s.heap v uv)
    (P : PU prog w B D adr env ρ s H' Q) : wpAny (model prog w) A (PySem.setItem uo ui uv) Q E s := by
  cases o with
  | ref k =>
    refine bnd e fun ob e1 e => ?_
    obtain ⟨a, rfl, ha, O⟩ := S.sr.vref e1 xo
    cases ob with
    | list vs =>
      refine bnd e fun i e2 e => gd e fun hz e => ?_
      obtain ⟨t, rfl⟩ := asInt_vr e2 xi
      obtain ⟨ws, hl, hv, hb⟩ := O.listE
      have hn := hv.length.trans Array.length_toList
      refine wpAny_setItem_plain hl hz.1 (Int.lt_trans hz.2.1 (by decide)) (by omega) fun h' hl' hs => ?_
      rw [← Option.some.inj e] at P
      exact P.turn S ha O hs hb (fun sk => .list _ _ _ hl' (by rw [Array.toList_setIfInBounds]; exact (hv.set _ xv).mono (List.prefix_refl _) sk) hb) _
    | dict es =>
      refine gd e fun hk e => ?_
      obtain ⟨α, _, knd, kvs, q, K⟩ := key_ok O xi hk.1
      refine wpAny_setItem_pairs K.is_ K.hd (fun h' hd' hs => ?_) (Nat.le_trans (K.len ▸ Nat.le_of_lt hk.2) (by decide))
      rw [← Option.some.inj e] at P
      exact P.turn S ha O hs K.off (fun sk => K.put v uv xv _ _ K.off sk hd') _
    | _ => cases e
  | _ => cases e
theorem dict_obj {od : Obj} {dx : Addr} {h : Heap} {kvs : List (Str × Value)} (hd : h.DictOf (strKind prog w) dx kvs) (ho : h.get? dx = some od) :
    ∃ (es : Array DictEntry) (ep : Nat), h.get? dx = some od ∧ od.ExactDict ∧ od.data = .dict es ep ∧ KeysOf (strKind prog w) es ∧ Pairs (strKind prog w) es.toList kvs ∧ (kvs.map (·.1)).Nodup := by
  obtain ⟨o, es, ep, e, hx, hdat, hk, hp, hn⟩ := hd
  obtain rfl : o = od := Option.some.inj (e.symm.trans ho)
  exact ⟨es, ep, e, hx, hdat, hk, hp, hn⟩
theorem lookIn_of {od : Obj} {dx : Addr} {h : Heap} {kvs : List (Str × Value)} (hd : h.DictOf (strKind prog w) dx kvs) (ho : h.get? dx = some od) (z : Str) : lookIn z od = some (valueAt kvs z) := by
  obtain ⟨es, ep, _, _, hdat, hk, hp, _⟩ := dict_obj hd ho
  unfold lookIn
  rw [hdat]
  dsimp only
  have q := hp.find z
  have qq : (fun x : DictEntry => x.key.isStr z) = fun x : DictEntry => (strKind prog w).is z x.key := by
    funext x
    exact ((strKind prog w).strs z z 0 x.key (strIs z 0)).symm
  rw [qq]
  cases hf : es.toList.find? (fun x => (strKind prog w).is z x.key) with
  | some en =>
    rw [hf] at q
    rw [← q]
    rfl
  | none =>
    rw [hf] at q
    rw [← q]
    dsimp only
    rw [if_neg]
    · rfl
    · rw [List.any_eq_true]
      rintro ⟨x, hx, hr⟩
      obtain ⟨y, hy, _⟩ := hk x (by simpa using hx)
      obtain ⟨t, ht⟩ := Value.isStrOf_shape hy
      rw [DictEntry.refKey, ht] at hr
      cases hr
theorem handed_of {v : MV} {u : Value} {h : Heap} (x : VR D adr h v u) (hv : noBi v = true) : handedIn u = true := by
  cases x with
  | bi => cases hv
  | _ => exact rfl
variable {K : Frag} {P : Pg}
theorem inst_at (S : SR prog w B D adr H s.heap) {k c d : Nat} {es : List (MV × MV)} {u : Value} (e : H.get k = some (.inst c d)) (e' : H.get d = some (.dict es)) (x : VR D adr s.heap (.ref k) u) :
    ∃ a dx od, u = .ref a ∧ adr[k]? = some a ∧ adr[d]? = some dx ∧ s.heap.get? dx = some od ∧ OR prog w B D adr s.heap (.dict es) dx ∧ InstAt s.heap a (instObj (D.ca c) dx) (D.ca c) (some od) := by
  obtain ⟨a, rfl, ha, O⟩ := S.vref e x
  obtain ⟨dx, hdx, ho⟩ := O.instE
  obtain ⟨dx', hdx', O'⟩ := S.obj d _ e'
  obtain rfl := Option.some.inj (hdx.symm.trans hdx')
  obtain ⟨od, hod⟩ := O'.at
  exact ⟨a, dx, od, rfl, ha, hdx, hod, O', ⟨ho, rfl, rfl, hod⟩⟩
theorem attr_value {k c d : Nat} (X : K.In s.heap) (C : ClsOk K D P c) {es : List (MV × MV)} {z : Str} {v : MV} {u : Value} (S : SR prog w B D adr H s.heap) (hz : okS z)
    (e : H.get k = some (.inst c d)) (e' : H.get d = some (.dict es)) (hk : okKey (.str (code z)) es = true) (ha : P.atr c (code z) = true) (hv : dGet (.str (code z)) es = some v) (hb : noBi v = true) (x : VR D adr s.heap (.ref k) u)
    {expr : Bool} (hQ : ∀ u' t, VR D adr s.heap v u' → Q u' ⟨s.heap, s.gens, s.drawn, t, s.os⟩) : wpAny (model prog w) A (getAttr u z expr) Q E s := by
  obtain ⟨a, dx, od, rfl, hak, hdk, hod, O, I⟩ := inst_at S e e' x
  obtain ⟨kvs, hd, he, _⟩ := dict_S O _ hk
  obtain ⟨u', hu', x'⟩ := (dGet_at (fun k b h => keyEq_S h hz) he).1 v hv
  have hl := lookIn_of hd hod z
  rw [hu'] at hl
  obtain ⟨cd, hc, hh⟩ := any_some C.has
  refine get_value X I C.ga (v := u') ?_ (handed_of x' hb) (hQ u' _ x')
  unfold findObj
  rw [hc, Option.bind_some, C.atr z hz ha, Option.bind_some]
  dsimp only [Option.bind_some]
  unfold W.ownOf
  rw [if_pos hh]
  dsimp only
  rw [hl]
  rfl
theorem fn_special {f : Addr} (h : typeIn K (.ref f) = some (.type "function")) : specialIn K (.ref f) "__get__" = some (some (.builtin "function.__get__")) := by
  unfold specialIn
  rw [h]
  show fastLookup "function" "__get__" = _
  decide +kernel
theorem fn_takes {f : Addr} (h : typeIn K (.ref f) = some (.type "function")) : takesIn K (.ref f) = some false := by
  have e1 : specialIn K (.ref f) "__set__" = some none := by
    unfold specialIn
    rw [h]
    show fastLookup "function" "__set__" = _
    decide +kernel
  have e2 : specialIn K (.ref f) "__delete__" = some none := by
    unfold specialIn
    rw [h]
    show fastLookup "function" "__delete__" = _
    decide +kernel
  unfold takesIn
  rw [e1]
  dsimp only
  rw [e2]
  rfl
theorem attr_bound {k c d : Nat} (X : K.In s.heap) (C : ClsOk K D P c) {es : List (MV × MV)} {z : Str} {f : Nat} {u : Value} (S : St prog w B D adr H ρ env s.heap) (hz : okS z)
    (e : H.get k = some (.inst c d)) (e' : H.get d = some (.dict es)) (hk : okKey (.str (code z)) es = true) (ha : P.meth c (code z) = some f) (hv : dGet (.str (code z)) es = none) (x : VR D adr s.heap (.ref k) u)
    {expr : Bool} (PQ : PX prog w B D adr env ρ s (.bm k f) H Q) : wpAny (model prog w) A (getAttr u z expr) Q E s := by
  obtain ⟨a, dx, od, rfl, hak, hdk, hod, O, I⟩ := inst_at S.sr e e' x
  obtain ⟨kvs, hd, he, _⟩ := dict_S O _ hk
  have hu := (dGet_at (fun k b h => keyEq_S h hz) he).2 hv
  have hl := lookIn_of hd hod z
  rw [hu] at hl
  obtain ⟨m1, m2, m3⟩ := C.meth z f hz ha
  refine get_bind X I C.ga (findObj_fn C.has m1 (fn_special m2) (fn_takes m2) m3 hl) C.gt (wpAny_call (fn_get (s := { s with toks := s.toks + 1 }) X m2 (handed_on rfl ?_)))
  exact PQ.push S _ (.bm k f a _ hak (Heap.get?_push_size _ rfl))
theorem method_ok {k c d : Nat} (X : K.In s.heap) (C : ClsOk K D P c) {es : List (MV × MV)} {z : Str} {f : Nat} {u : Value} (S : St prog w B D adr H ρ env s.heap) (hz : okS z)
    (e : H.get k = some (.inst c d)) (e' : H.get d = some (.dict es)) (hk : okKey (.str (code z)) es = true) (ha : P.meth c (code z) = some f) (hv : dGet (.str (code z)) es = none) (x : VR D adr s.heap (.ref k) u)
    {pl : Sem Bool} {Q : Value × List Value → Shared → Prop} (h : Q (.ref (D.fa f), [u]) s) : wpAny (model prog w) A (getMethod u z pl) Q E s := by
  obtain ⟨a, dx, od, rfl, hak, hdk, hod, O, I⟩ := inst_at S.sr e e' x
  obtain ⟨kvs, hd, he, _⟩ := dict_S O _ hk
  have hu := (dGet_at (fun k b h => keyEq_S h hz) he).2 hv
  have hl := lookIn_of hd hod z
  rw [hu] at hl
  obtain ⟨m1, m2, m3⟩ := C.meth z f hz ha
  refine method_fn X I C.ga C.gt m1 m2 ?_ h
  unfold shadowIn
  dsimp only
  rw [hl]
  rfl
theorem put_name {od : Obj} {dx : Addr} {h h' : Heap} {kvs : List (Str × Value)} {z : Str} {tk : Tok} {v : Value} (hd : h.DictOf (strKind prog w) dx kvs) (ho : h.get? dx = some od)
    (ho' : h'.get? dx = some (Obj.putName z (PyData.keyHash w.params z) (.str z tk) v od)) : h'.DictOf (strKind prog w) dx (stored kvs z v) := by
  obtain ⟨es, ep, _, hx, hdat, hk, hp, hn⟩ := dict_obj hd ho
  obtain ⟨c, dd, dt, sl⟩ := od
  obtain rfl : dt = _ := hdat
  obtain ⟨es⟩ := es
  rw [putName_eq] at ho'
  have qq : (fun x : DictEntry => x.key.isStr z) = fun x : DictEntry => (strKind prog w).is z x.key := by
    funext x
    exact ((strKind prog w).strs z z 0 x.key (strIs z 0)).symm
  have hh : PyData.keyHash w.params z = (strKind prog w).hash z := rfl
  have hidx := hp.findIdx z
  cases hi : es.findIdx? (fun x => (strKind prog w).is z x.key) with
  | some i =>
    rw [hi] at hidx
    refine ⟨_, _, _, ho', hx, rfl, ?_, ?_, ?_⟩
    · unfold PySem.putIn
      rw [qq, hi]
      have := hk.modify i v
      simpa using this
    · unfold PySem.putIn
      rw [qq, hi, stored, if_pos (any_of_findIdx_some hidx.symm)]
      have := hp.modify hn hi v
      simpa using this
    · rw [stored, if_pos (any_of_findIdx_some hidx.symm), keys_map_store]; exact hn
  | none =>
    rw [hi] at hidx
    have hnot : z ∉ kvs.map (·.1) := not_mem_of_findIdx_none hidx.symm
    have hany : ¬ (kvs.any fun kv => decide (kv.1 = z)) = true := by
      rw [List.any_eq_true]; rintro ⟨kv, hkv, he⟩
      exact hnot (List.mem_map.mpr ⟨kv, hkv, of_decide_eq_true he⟩)
    refine ⟨_, _, _, ho', hx, rfl, ?_, ?_, ?_⟩
    · unfold PySem.putIn
      rw [qq, hi, hh]
      have := hk.push (strIs z tk) v
      simpa using this
    · unfold PySem.putIn
      rw [qq, hi, hh, stored, if_neg hany]
      have := hp.append (strIs z tk) ((strKind prog w).hash z) v
      simpa using this
    · rw [stored, if_neg hany, List.map_append, List.nodup_append]
      refine ⟨hn, by simp, ?_⟩
      intro a ha b hb
      simp only [List.map_cons, List.map_nil, List.mem_singleton] at hb
      subst hb
      exact fun e => hnot (e ▸ ha)
theorem put_live {od : Obj} {dx : Addr} {h : Heap} {kvs : List (Str × Value)} {z : Str} {k : Int} {tk : Tok} {v : Value} (hd : h.DictOf (strKind prog w) dx kvs) (ho : h.get? dx = some od) : (Obj.putName z k (.str z tk) v od).isFreed = false := by
  obtain ⟨es, ep, _, _, hdat, _⟩ := dict_obj hd ho
  obtain ⟨c, dd, dt, sl⟩ := od
  obtain rfl : dt = _ := hdat
  obtain ⟨es⟩ := es
  rw [putName_eq]
  rfl
theorem put_fits {od : Obj} {dx : Addr} {h : Heap} {kvs : List (Str × Value)} (hd : h.DictOf (strKind prog w) dx kvs) (ho : h.get? dx = some od) (hl : kvs.length < 200) : od.data.pastItsLine = none := by
  obtain ⟨es, ep, _, _, hdat, _, hp, _⟩ := dict_obj hd ho
  rw [hdat]
  have h1 := hp.length
  rw [Array.length_toList] at h1
  have : sizeLine = 16777216 := sizeLine_eq
  exact pastItsLine_dict (by omega)
theorem stored_len (kvs : List (Str × Value)) (z : Str) (v : Value) : (stored kvs z v).length ≤ kvs.length + 1 := by
  unfold stored
  split
  · rw [List.length_map]; exact Nat.le_succ _
  · rw [List.length_append]; exact Nat.le_refl _
theorem refKeys {z : Str} {od : Obj} {r : Option Value} (h : lookIn z od = some r) : ∃ es n, od.data = .dict es n ∧ (!es.any (·.key.isStr z) && es.any (·.refKey)) = false := by
  unfold lookIn at h
  split at h
  · rename_i es n q
    refine ⟨es, n, q, ?_⟩
    rw [← Array.any_toList, ← Array.any_toList]
    split at h
    · rename_i en he
      rw [List.any_eq_true.mpr ⟨en, List.mem_of_find?_eq_some he, List.find?_some he⟩]; rfl
    · split at h
      · cases h
      · rename_i z'; rw [Bool.not_eq_true] at z'; rw [z', Bool.and_false]
  · cases h
theorem setAttr_ok {k c d : Nat} (X : K.In s.heap) (C : ClsOk K D P c) {es : List (MV × MV)} {z : Str} {v : MV} {u uv : Value} (S : St prog w B D adr H ρ env s.heap) (hz : okS z)
    (e : H.get k = some (.inst c d)) (e' : H.get d = some (.dict es)) (hk : okKey (.str (code z)) es = true) (ha : P.atr c (code z) = true) (hl : es.length < 100) (x : VR D adr s.heap (.ref k) u) (xv : VR D adr s.heap v uv)
    {Q : Unit → Shared → Prop} (PQ : PU prog w B D adr env ρ s (H.upd d (.dict (dPut (.str (code z)) v es))) Q) : wpAny (model prog w) A (PySem.setAttr u z uv) Q E s := by
  obtain ⟨a, dx, od, rfl, hak, hdk, hod, O, I⟩ := inst_at S.sr e e' x
  obtain ⟨kvs, hd, he, hb⟩ := dict_S O _ hk
  obtain ⟨es₀, n₀, q, hrk⟩ := refKeys (lookIn_of hd hod z)
  obtain ⟨_, _, _, _, _, _, _, hnd⟩ := dict_obj hd hod
  have ht : takerIn K (D.ca c) z = some none := by
    unfold takerIn
    rw [C.atr z hz ha]
    rfl
  refine set_plain X I C.sa (osa_open (s := { s with toks := s.toks + 1 }) X I C.plain ht fun b => ?_)
  obtain ⟨cd, hc, hh⟩ := any_some C.has
  have hsb : Heap.SameBut dx s.heap (s.heap.update dx (Obj.putName z (PyData.keyHash w.params z) (.str z (s.toks + 1)) uv)) := Heap.SameBut.update ..
  have hod' : (s.heap.update dx (Obj.putName z (PyData.keyHash w.params z) (.str z (s.toks + 1)) uv)).get? dx = some (Obj.putName z (PyData.keyHash w.params z) (.str z (s.toks + 1)) uv od) :=
    Heap.get?_update_self _ hod (put_live hd hod)
  have hd' := put_name hd hod hod'
  have hsz := put_fits hd' hod' (by have h2 := stored_len kvs z uv; have h3 := he.length; omega)
  refine wpAny_bind (wpAny_pure (wpAny_bind (wpAny_bind (wpAny_loadPart I.at_ (wpAny_bind (looks_clsIn X hc _ _ _ _ (fun _ _ e => e) ?_))))))
  rw [hh]
  refine wpAny_pure (a := some dx) (wpAny_bind (wpAny_pure (wpAny_bind ?_)))
  unfold nsSet
  refine wpAny_bind (wpAny_bind (wpAny_askSetting (wpAny_pure (wpAny_bind (wpAny_mkText (wpAny_bind (wpAny_loadPart hod ?_)))))))
  rw [q]
  dsimp only
  rw [aRefKeyMayBeTheName_at, hrk]
  exact wpAny_updatePart hod (wpAny_bind (wpAny_lookBehind hod' hsz (wpAny_pure (PQ.turn S hdk O hsb hb (fun sk => .dictS _ _ _ hd' ((dPut_at (R := SK) ⟨hz, rfl⟩ (fun k b h => keyEq_S h hz) xv he hnd).mono (List.prefix_refl _) sk) hb) _))))
end
end Mn
end
section
set_option maxRecDepth 100000
namespace Mn
open PySem PySem.W PyProof.Rows PySem.Calls SeqAt
theorem keys_miss : typeLookup (.type "list") "keys" = pure none := am_miss_of_fast (by decide +kernel)
theorem sub_attr : isSubtype (.type "AttributeError") (.type "AttributeError") = pure true := sub_AttributeError
section
variable {prog : Program} {w : World} {A : Around} {E : Value → Shared → Prop} {s : Shared}
theorem no_keys {a : Addr} {xs : Array Value} {k : Nat} {Q : Option Value → Shared → Prop} (hx : s.heap.get? a = some { cls := .type "list", data := .seq xs k }) (hA : A.handled = none)
    (h : ∀ h' tk, (∀ b o, s.heap.get? b = some o → h'.get? b = some o) → Q none { s with heap := h', toks := tk }) : wpAny (model prog w) A (getAttr? (.ref a) "keys") Q E s := by
  obtain ⟨hp, g, d, tk, os⟩ := s
  have hT : ∀ tk', (⟨hp, g, d, tk', os⟩ : Shared).TypeIs (.ref a) "list" := fun _ => ⟨_, hx, rfl⟩
  have f1 := sub_AttributeError
  have f3 := PySem.F.slot_list_getattribute.lookup
  have f4 := PySem.F.slot_list_getattribute.bind (.ref a)
  have f5 := am_list_getattr_none
  unfold getAttr? getAttrBy? getAttrBy
  refine wpAny_bind (wpAny_mkText (wpAny_bind (wpAny_attempt ?_)))
  repeat (any_goals (first | assumption | exact hT _ | ((with_reducible show wpAny _ _ (call (Value.builtin "list.__getattribute__") _ _) _ _ _); refine call_meets PySem.F.slot_list_getattribute (hT _) am_entry_list_getattribute (PySem.F.args_list_getattribute_2 _ _) (meets_getattribute_miss_list a xs k #[] "keys" _ keys_miss (by decide +kernel) (by decide +kernel)) ⟨hx, hA, fun h' tk' e hx' => ?_⟩) | wp_step))
  obtain ⟨t', u', he⟩ := hx'.there
  show wpAny _ _ (getattributeRaised _ _ _ _ _ _ _) _ _ _
  have hT' : ∀ tk', (⟨h', g, d, tk', os⟩ : Shared).TypeIs (.ref e) "AttributeError" := fun _ => ⟨_, he, rfl⟩
  unfold getattributeRaised
  refine wpAny_bind (wpAny_isInstance (hT' _) f1 ?_)
  rw [if_pos rfl]
  refine wpAny_bind (wpAny_of_eq (a := none) (by unfold hookBehind; exact f5) ?_)
  unfold hookOrError
  dsimp only
  unfold attributeErrorLeaves
  refine wpAny_bind ?_
  refine wpAny_throw ?_
  refine wpAny_bind (wpAny_isInstance (hT' _) f1 ?_)
  rw [if_pos rfl]
  exact wpAny_pure (h _ _ hx'.keeps)
end
inductive Prs {prog : Program} {w : World} {K : Type} [DecidableEq K] (knd : KeyKind prog w K) (h : Heap) : List Value → List (K × Value) → Prop
  | nil : Prs knd h [] []
  | cons {a : Addr} {k v : Value} {q : K} {us : List Value} {kvs : List (K × Value)} (ht : h.IsTuple a #[k, v]) (hk : knd.is q k = true) (hr : Prs knd h us kvs) : Prs knd h (.ref a :: us) ((q, v) :: kvs)
theorem Prs.inv {prog : Program} {w : World} {K : Type} [DecidableEq K] {knd : KeyKind prog w K} {h : Heap} {x : Value} {us : List Value} {rest : List (K × Value)} (p : Prs knd h (x :: us) rest) : ∃ a k v q kvs, x = .ref a ∧ rest = (q, v) :: kvs ∧ h.IsTuple a #[k, v] ∧ knd.is q k = true ∧ Prs knd h us kvs := by
  cases p with
  | cons ht hk hr => exact ⟨_, _, _, _, _, rfl, rfl, ht, hk, hr⟩
theorem soft1 {h h' : Heap} {a : Addr} (hh : Hard h a) (hs : Heap.SameBut a h h') : SoftKeep h h' := soft_of (l := [a]) (fun b q => by rw [List.mem_singleton.mp q]; exact hh) fun b ob e n => (hs.2 b fun z => n (by rw [z]; exact .head _)).trans e
theorem plain_update_loop : plainId "dict.update.loop" = true := by decide +kernel
theorem entry_update_loop : entryFor table "dict.update.loop" = some Builtin.«dict.update.loop» := entryFor_of_tree (by kernel_rfl)
section
variable {prog : Program} {w : World} {K : Type} [DecidableEq K] {knd : KeyKind prog w K}
theorem Prs.soft {h h' : Heap} (hs : SoftKeep h h') {us : List Value} {kvs : List (K × Value)} (x : Prs knd h us kvs) : Prs knd h' us kvs := by
  induction x with
  | nil => exact .nil
  | cons ht hk _ ih => exact .cons (hs.1 _ _ ht) hk ih
theorem dict_hard {h : Heap} {d : Addr} {kvs : List (K × Value)} (x : h.DictOf knd d kvs) : Hard h d := by
  obtain ⟨o, es, ep, e, hx, hd, _⟩ := x
  exact hard_data e (by rw [hd]; simp) (by rw [hd]; simp)
theorem iter_hard {h : Heap} {a l : Addr} {i : Nat} (x : h.IsListIter a l i) : Hard h a := by
  obtain ⟨o, e, hc, hd⟩ := x
  exact hard_of e (by rw [hc]; simp) (by rw [hc]; simp)
theorem stored_le (kvs : List (K × Value)) (z : K) (v : Value) : (stored kvs z v).length ≤ kvs.length + 1 := by
  unfold stored
  split
  · rw [List.length_map]; exact Nat.le_succ _
  · rw [List.length_append]; exact Nat.le_refl _
variable {A : Around} {R : Result → Shared → Prop}
theorem update_loop (hh : A.handled = none) {d it l : Addr} {items : Array Value} (n1 : it ≠ l) (n2 : it ≠ d) (n3 : l ≠ d) :
    ∀ (k i : Nat) (s : Shared) (kvs rest : List (K × Value)), items.size - i = k → i ≤ items.size → s.heap.IsListIter it l i → s.heap.IsList l items → s.heap.DictOf knd d kvs → Prs knd s.heap (items.toList.drop i) rest →
      kvs.length + rest.length ≤ sizeLine →
      (∀ h' tk, h'.DictOf knd d (rest.foldl (fun m p => stored m p.1 p.2) kvs) → (∀ b o, b ≠ it → b ≠ d → s.heap.get? b = some o → h'.get? b = some o) → R (.ok (.ret .none)) { s with heap := h', toks := tk }) →
      codeAny (model prog w) A (.builtin "dict.update.loop" ⟨[.ref d, .ref it, rawInt i, .none], []⟩) R s := by
  intro k
  induction k with
  | zero =>
    intro i s kvs rest hk hi hit hl hd hp hz hR
    refine codeAny_builtin entry_update_loop ?_
    rw [Around.under_plainId plain_update_loop _]
    show wpAny _ A.in1 (pyNext (.ref it) >>= _) _ _ s
    have hnone : items[i]? = none := Array.getElem?_eq_none (by omega)
    refine wpAny_bind (wpAny_pyNext_list_end hh hit hl hnone fun h' hs => ?_)
    show wpAny _ _ (Builtin.Dict.addKeywords d [] >>= _) _ _ _
    refine wpAny_bind (wpAny_pure (wpAny_pure ?_))
    have e : items.toList.drop i = [] := List.drop_eq_nil_of_le (by simp; omega)
    rw [e] at hp
    obtain rfl : rest = [] := by cases hp; rfl
    exact hR h' s.toks (hd.extBut hs (Ne.symm n2)) fun b o h1 _ e => hs b o h1 e
  | succ k ih =>
    intro i s kvs rest hk hi hit hl hd hp hz hR
    have hlt : i < items.size := by omega
    obtain ⟨x, hx⟩ : ∃ x, items[i]? = some x := ⟨_, Array.getElem?_eq_getElem hlt⟩
    have e : items.toList.drop i = x :: items.toList.drop (i + 1) := by
      have hlt' : i < items.toList.length := by rw [Array.length_toList]; exact hlt
      rw [List.drop_eq_getElem_cons hlt', show items.toList[i] = x from Option.some.inj ((List.getElem?_eq_getElem hlt').symm.trans (Array.getElem?_toList.trans hx))]
    rw [e] at hp
    obtain ⟨a, kx, vx, q, rest', rfl, rfl, ht, hkk, hr⟩ := hp.inv
    refine codeAny_builtin entry_update_loop ?_
    rw [Around.under_plainId plain_update_loop _]
    show wpAny _ A.in1 (pyNext (.ref it) >>= _) _ _ s
    refine wpAny_bind (wpAny_pyNext_list_item hit hl hx fun h1 hit1 hs1 => ?_)
    have sk1 : SoftKeep s.heap h1 := soft1 (iter_hard hit) hs1
    have hd1 : h1.DictOf knd d kvs := hd.extBut hs1.extBut (Ne.symm n2)
    have hl1 : h1.IsList l items := hl.extBut hs1.extBut (Ne.symm n1)
    obtain ⟨to, hto, htc, tn, htd⟩ := sk1.1 _ _ ht
    refine wpAny_bind (wpAny_holding (wpAny_bind (wpAny_tryCatch ?_)))
    unfold Builtin.Dict.pairItems
    refine wpAny_bind (wpAny_typeOf (T := "tuple") ⟨to, hto, htc⟩ ?_)
    rw [if_pos (by decide)]
    refine wpAny_bind (wpAny_seqItems hto htd ?_)
    refine wpAny_pure ?_
    show wpAny _ _ (holding [kx, vx] (dictSet d kx vx)) _ _ _
    simp only [List.length_cons] at hz
    refine wpAny_holding (wpAny_dictSet_pairs hkk hd1 (fun h2 hd2 hs2 => ?_) (by omega))
    have sk2 : SoftKeep h1 h2 := soft1 (dict_hard hd1) hs2
    refine wpAny_pure ⟨plainId_quiet plain_update_loop _, ih (i + 1) _ (stored kvs q vx) rest' (by omega) (by omega) ?_ (hl1.extBut hs2.extBut n3) hd2 ((hr.soft sk1).soft sk2) ?_ fun h' tk hd' hk' => ?_⟩
    · obtain ⟨o, eo, r⟩ := hit1
      exact ⟨o, (hs2.2 it n2).trans eo, r⟩
    · have := stored_le kvs q vx
      omega
    · exact hR h' tk hd' fun b o b1 b2 eb => hk' b o b1 b2 ((hs2.2 b b2).trans ((hs1.2 b b1).trans eb))
end
section
variable {prog : Program} {w : World} {K : Type} [DecidableEq K] {knd : KeyKind prog w K} {A : Around} {E : Value → Shared → Prop} {s : Shared}
theorem call_dict_pairs (hh : A.handled = none) {l : Addr} {items : Array Value} {rest : List (K × Value)} {Q : Value → Shared → Prop} (hl : s.heap.PlainList l items) (hp : Prs knd s.heap items.toList rest) (hz : rest.length ≤ sizeLine)
    (h : ∀ h' tk, h'.DictOf knd s.heap.objs.size (rest.foldl (fun m p => stored m p.1 p.2) []) → (∀ b o, s.heap.get? b = some o → h'.get? b = some o) → Q (.ref s.heap.objs.size) { s with heap := h', toks := tk }) :
    wpAny (model prog w) A (call (.type "dict") [.ref l]) Q E s := by
  refine callType_codes (Q₁ := fun obj s₁ => obj = .ref s.heap.objs.size ∧ s₁ = { s with heap := s.heap.push { cls := .type "dict", data := .dict #[] } }) PySem.F.kt_called_dict (PySem.F.kt_typeCall_dict_1 _) PySem.F.entry_dict_init (kt_code_dict_new _ ⟨rfl, rfl⟩) ?_
  rintro obj s₁ ⟨rfl, rfl⟩
  have hnew : (s.heap.push { cls := .type "dict", data := .dict #[] }).DictOf knd s.heap.objs.size [] := Heap.DictOf.new s.heap
  obtain ⟨n, hn⟩ := hl
  have hl' := Heap.get?_push_of_some { cls := .type "dict", data := .dict #[] } hn
  have hT : (⟨s.heap.push { cls := .type "dict", data := .dict #[] }, s.gens, s.drawn, s.toks, s.os⟩ : Shared).TypeIs (.ref l) "list" := ⟨_, hl', rfl⟩
  have nl : l ≠ s.heap.objs.size := fun e => Nat.lt_irrefl _ (e ▸ Heap.lt_size hn)
  refine ⟨hnew.typeIs, PySem.F.args_dict_init_2 _ _, ?_⟩
  unfold Builtin.«dict.__init__»
  refine wpAny_bind ?_
  unfold Builtin.Dict.selfAndRest
  refine wpAny_bind (wpAny_notOrdered_dict hnew.typeIs ?_)
  show wpAny _ _ (pure (s.heap.objs.size, [Value.ref l])) _ _ _
  refine wpAny_pure ?_
  show wpAny _ _ (Builtin.Dict.updateFrom "dict.__init__" s.heap.objs.size (.ref l) [] .none) _ _ _
  unfold Builtin.Dict.updateFrom
  refine wpAny_bind (wpAny_typeOf hT ?_)
  rw [if_pos (by decide)]
  refine wpAny_bind (no_keys hl' hh fun h1 tk hk1 => ?_)
  simp only [Option.isNone_none, if_true]
  refine wpAny_bind (wpAny_rule ?_)
  have hl1 : h1.IsList l items := ⟨_, hk1 _ _ hl', rfl, n, rfl⟩
  refine wpAny_bind (wpAny_pyIter_list hl1 ?_)
  have k0 : ∀ b o, s.heap.get? b = some o → (h1.push { cls := .type "list_iterator", data := .fields #[.ref l, .int 0 0] }).get? b = some o := fun b o e => Heap.get?_push_of_some _ (hk1 _ _ (Heap.get?_push_of_some _ e))
  have hd1 : (h1.push { cls := .type "list_iterator", data := .fields #[.ref l, .int 0 0] }).DictOf knd s.heap.objs.size [] := by
    obtain ⟨o, es, ep, e, r⟩ := hnew
    exact ⟨o, es, ep, Heap.get?_push_of_some _ (hk1 _ _ e), r⟩
  have hnd : h1.objs.size ≠ s.heap.objs.size := by
    obtain ⟨o, es, ep, e, r⟩ := hnew
    exact fun q => Nat.lt_irrefl _ (q ▸ Heap.lt_size (hk1 _ _ e))
  have hnl : h1.objs.size ≠ l := fun q => Nat.lt_irrefl _ (q ▸ Heap.lt_size (hk1 _ _ hl'))
  refine wpAny_pure ⟨plainId_quiet plain_update_loop _, ?_⟩
  refine update_loop (A := A.in1) (knd := knd) (d := s.heap.objs.size) (it := h1.objs.size) (l := l) (items := items) hh hnl hnd nl items.size 0 ⟨h1.push { cls := .type "list_iterator", data := .fields #[.ref l, .int 0 0] }, s.gens, s.drawn, tk, s.os⟩ [] rest rfl (Nat.zero_le _)
    ⟨_, Heap.get?_push_size _ rfl, rfl, rfl⟩ ⟨_, k0 _ _ hn, rfl, n, rfl⟩ hd1 (hp.soft (.of_keep k0)) (by simpa using hz)
    fun h' tk hd' hk' => ⟨rfl, h h' tk hd' fun b o e => hk' b o (fun q => ?_) (fun q => ?_) (k0 _ _ e)⟩
  · subst q
    exact absurd (Heap.lt_size (hk1 _ _ (Heap.get?_push_of_some _ e))) (Nat.lt_irrefl _)
  · subst q
    exact absurd (Heap.lt_size e) (Nat.lt_irrefl _)
end
end Mn
end
section
set_option maxRecDepth 100000
namespace Mn
open PySem PySem.W PyProof.Rows PySem.Calls SeqAt
section
variable {prog : Program} {w : World} {B : Heap} {D : Ad} {adr : List Addr} {H H' : MH} {A : Around} {E : Value → Shared → Prop} {s : Shared} {env : Env} {ρ : Loc} {Q : Value → Shared → Prop}
theorem base_none (S : SR prog w B D adr H s.heap) {a : Addr} (h : s.heap.get? a = none) : B.get? a = none := by
  cases q : B.get? a with
  | none => rfl
  | some o => have := S.base _ o q; rw [h] at this; cases this
theorem PX.made {o : MO} {a : Addr} {h' : Heap} (P : PX prog w B D adr env ρ s (.ref H.next) (H.new o) Q) (S : St prog w B D adr H ρ env s.heap) (k : ∀ b ob, s.heap.get? b = some ob → h'.get? b = some ob)
    (ha : s.heap.get? a = none) (O : adr <+: adr ++ [a] → OR prog w B D (adr ++ [a]) h' o a) (t : Nat) : Q (.ref a) ⟨h', s.gens, s.drawn, t, s.os⟩ := by
  have O := O (List.prefix_append ..)
  exact P _ _ _ _ (Tn.made k ha) (S.made k ha O) (.ref _ _ (by rw [← S.sr.len]; simp))
theorem PX.grown {v : MV} {u : Value} {h' : Heap} (P : PX prog w B D adr env ρ s v H Q) (S : St prog w B D adr H ρ env s.heap) (k : ∀ b ob, s.heap.get? b = some ob → h'.get? b = some ob) (x : VR D adr h' v u) (t : Nat) :
    Q u ⟨h', s.gens, s.drawn, t, s.os⟩ := P _ _ _ _ (Tn.grown k) (S.grown k) x
theorem lim_eq : lim = 1048576 := rfl
theorem pairs_inv {a : MV} {r : List MV} {l : List (MV × MV)} (e : pairsOf (a :: r) = some l) : ∃ k v l', a = .tup [.str k, v] ∧ pairsOf r = some l' ∧ l = (.str k, v) :: l' := by
  refine bnd e fun p e1 e => ?_
  obtain ⟨k, v, rfl, e⟩ := two_inv e
  refine bnd e fun n e2 e => bnd e fun l' e3 e => ?_
  exact ⟨n, v, l', by rw [asTup_inv e1, asStr_inv e2], e3, (Option.some.inj e).symm⟩
theorem pairs_S {h : Heap} {vs : List MV} {us : List Value} (x : VRs D adr h vs us) : ∀ l, pairsOf vs = some l → ∃ kvs, Prs (strKind prog w) h us kvs ∧ ER D adr h SK l kvs :=
  x.ind (motive := fun vs us => ∀ l, pairsOf vs = some l → ∃ kvs, Prs (strKind prog w) h us kvs ∧ ER D adr h SK l kvs) (fun l e => ⟨[], .nil, Option.some.inj e ▸ .nil⟩) fun v u vs us hv _ ih l e => by
    obtain ⟨k, y, l', rfl, e1, rfl⟩ := pairs_inv e
    obtain ⟨kvs, h1, h2⟩ := ih l' e1
    obtain ⟨a, ⟨ws⟩, rfl, ht, hvs⟩ := hv.inv
    obtain ⟨uk, uv, rfl, hk, hy⟩ := VRs.inv2 (us := ws) hvs
    obtain ⟨z, t, ok, rfl, rfl⟩ := hk.inv
    exact ⟨(z, uv) :: kvs, .cons ht (strIs z t) h1, .cons ⟨ok, rfl⟩ hy h2⟩
theorem stored_nodup {α : Type} [DecidableEq α] {m : List (α × Value)} (hn : (m.map (·.1)).Nodup) (k : α) (v : Value) : ((stored m k v).map (·.1)).Nodup := by
  unfold stored
  split
  · rw [keys_map_store]; exact hn
  · rename_i hany
    rw [List.map_append, List.nodup_append]
    refine ⟨hn, List.pairwise_singleton .., fun a ha b hb e => ?_⟩
    obtain ⟨p, hp, he⟩ := List.mem_map.mp ha
    exact hany (List.any_eq_true.mpr ⟨p, hp, decide_eq_true (he.trans (e.trans (List.mem_singleton.mp hb)))⟩)
theorem dictOf_S {h : Heap} {l : List (MV × MV)} {kvs : List (Str × Value)} (x : ER D adr h SK l kvs) : ∀ {es : List (MV × MV)} {m : List (Str × Value)}, ER D adr h SK es m → (m.map (·.1)).Nodup → ER D adr h SK (l.foldl (fun es p => dPut p.1 p.2 es) es) (kvs.foldl (fun m p => stored m p.1 p.2) m) := by
  induction x with
  | nil => exact fun x _ => x
  | cons hk hv _ ih => exact fun x hn => ih (dPut_at hk (SK_eq hk) hv x hn) (stored_nodup hn _ _)
theorem kle_inv {o : MO} {v : MV} (e : kle H o = some (v, H')) : ∃ vs, o = .list vs ∧ vs.length ≤ lim ∧ some (MV.int vs.length, H) = some (v, H') := by
  cases o with
  | list vs => exact gd e fun h e => ⟨vs, rfl, h, e⟩
  | _ => cases e
theorem kdi_inv {o : MO} {r : MV × MH} (e : kdi H o = some r) : ∃ vs, o = .list vs ∧ ((pairsOf vs).bind fun l => if l.length < 1000 then some (.ref H.next, H.new (.dict (dictOf l))) else none) = some r := by
  cases o with
  | list vs => exact ⟨vs, rfl, e⟩
  | _ => cases e
theorem isTy_inv {c : MV} (h : isTy c = true) : c = .bi .tstr ∨ c = .bi .ttup := by
  cases c with
  | bi b => cases b <;> first | exact .inl rfl | exact .inr rfl | cases h
  | _ => cases h
theorem callB_ok (S : St prog w B D adr H ρ env s.heap) (hh : A.handled = none) {b : BI} {as : List MV} {us : List Value} {v : MV} (e : callB b as H = some (v, H')) (x : VRs D adr s.heap as us)
    (P : PX prog w B D adr env ρ s v H' Q) : wpAny (model prog w) A (call (biV b) us) Q E s := by
  cases b with
  | len =>
    obtain ⟨y, rfl, e⟩ := one_inv e
    refine bnd e fun k e1 e => bnd e fun o e2 e => ?_
    obtain ⟨u, rfl, xu⟩ := x.inv1
    rw [asRef_inv e1] at xu
    obtain ⟨a, rfl, ha, O⟩ := S.sr.vref e2 xu
    obtain ⟨vs, rfl, hz, e⟩ := kle_inv e
    obtain ⟨ws, hl, hv, _⟩ := O.listE
    have hn := hv.length.trans Array.length_toList
    rw [hn] at e hz
    exact PyProof.Rows.len_list hl.isList (by have := lim_eq; omega) ((P.of e).here S _ (.int _ _))
  | abs =>
    obtain ⟨y, rfl, e⟩ := one_inv e
    refine bnd e fun i e1 e => ?_
    obtain ⟨u, rfl, xu⟩ := x.inv1
    obtain ⟨t, rfl⟩ := asInt_vr e1 xu
    refine PyProof.Rows.call_abs_int fun u tk => ?_
    rw [show (if i < 0 then -i else i) = (i.natAbs : Int) by split <;> omega]
    exact (P.of e).here S _ (.int _ _)
  | isinst =>
    obtain ⟨y, c, rfl, e⟩ := two_inv e
    refine bnd e fun i e1 e => gd e fun hc e => ?_
    obtain ⟨u, u', rfl, xu, xu'⟩ := x.inv2
    obtain ⟨t, rfl⟩ := asInt_vr e1 xu
    rcases isTy_inv hc with rfl | rfl
    · obtain rfl : u' = _ := xu'.inv
      exact IsiPair.int_str ((P.of e).here S _ (.bool _))
    · obtain rfl : u' = _ := xu'.inv
      exact IsiPair.int_tuple ((P.of e).here S _ (.bool _))
  | max =>
    obtain ⟨y, c, rfl, e⟩ := two_inv e
    refine bnd e fun i e1 e => bnd e fun j e2 e => ?_
    obtain ⟨u, u', rfl, xu, xu'⟩ := x.inv2
    obtain ⟨t, rfl⟩ := asInt_vr e1 xu
    obtain ⟨t', rfl⟩ := asInt_vr e2 xu'
    refine max_two_ints hh fun h' tk hk => (P.of e).grown S hk ?_ tk
    split <;> exact .int _ _
  | dict =>
    obtain ⟨y, rfl, e⟩ := one_inv e
    refine bnd e fun k e1 e => bnd e fun o e2 e => ?_
    obtain ⟨vs, rfl, e⟩ := kdi_inv e
    refine bnd e fun l e3 e => gd e fun hz e => ?_
    obtain ⟨u, rfl, xu⟩ := x.inv1
    rw [asRef_inv e1] at xu
    obtain ⟨a, rfl, ha, O⟩ := S.sr.vref e2 xu
    obtain ⟨ws, hl, hv, _⟩ := O.listE
    obtain ⟨kvs, p1, p2⟩ := pairs_S (prog := prog) (w := w) hv l e3
    have hn := p2.length
    refine call_dict_pairs hh hl p1 (by rw [sizeLine_eq]; omega) fun h' tk hd hk' => ?_
    exact (P.of e).made S hk' none_size (fun hp => .dictS _ _ _ hd (dictOf_S (p2.mono hp (.of_keep hk')) .nil List.nodup_nil) (new_none S.sr)) tk
  | _ => cases e
end
end Mn
end
section
set_option maxRecDepth 100000
namespace Mn
open PySem PySem.W PyProof.Rows PySem.Calls SeqAt
theorem okS_of {x : String} (h : (Str.ofString x).cps.toList.all (fun c => decide (c < 256)) = true) : okS (Str.ofString x) := fun c hc => of_decide_eq_true (List.all_eq_true.mp h c hc)
theorem name_of {z : Str} {x : String} (hz : okS z) (e : code z = cd x) (h : (Str.ofString x).cps.toList.all (fun c => decide (c < 256)) = true) (e' : code (Str.ofString x) = cd x) : z = Str.ofString x :=
  code_inj hz (okS_of h) (e.trans e'.symm)
section
variable {prog : Program} {w : World} {B : Heap} {D : Ad} {adr : List Addr} {H H' : MH} {A : Around} {E : Value → Shared → Prop} {s : Shared} {env : Env} {ρ : Loc} {Q : Value → Shared → Prop}
theorem plain_noDict {h : Heap} {l : Addr} {items : Array Value} (hl : h.PlainList l items) : h.NoDictAt (.ref l) := by
  obtain ⟨n, e⟩ := hl
  exact ⟨_, e, rfl⟩
theorem getD_ok {a : Addr} {es : List (MV × MV)} {z : Str} (O : OR prog w B D adr s.heap (.dict es) a) (hz : okS z) (e : code z = cd "get") {pl : Sem Bool} {Q : Value × List Value → Shared → Prop} (h : Q (.builtin "dict.get", [.ref a]) s) :
    wpAny (model prog w) A (getMethod (.ref a) z pl) Q E s := by
  obtain rfl := name_of (x := "get") hz e (by decide +kernel) (by decide +kernel)
  obtain ⟨⟨kvs, hd, _⟩ | ⟨kvs, hd, _⟩, _⟩ := O.inv
  · exact getMethod_builtin hd.typeIs PySem.F.plainAttrs_dict PySem.F.slot_dict_get PySem.F.type_dict_get hd.mapOf.noDict h
  · exact getMethod_builtin hd.typeIs PySem.F.plainAttrs_dict PySem.F.slot_dict_get PySem.F.type_dict_get hd.mapOf.noDict h
theorem PX.turn {v : MV} {u : Value} {k : Nat} {a : Addr} {o o₀ : MO} {h' : Heap} (P : PX prog w B D adr env ρ s v (H.upd k o) Q) (S : St prog w B D adr H ρ env s.heap) (hk : adr[k]? = some a) (O₀ : OR prog w B D adr s.heap o₀ a)
    (hs : Heap.SameBut a s.heap h') (hb : Off B a) (O : SoftKeep s.heap h' → OR prog w B D adr h' o a) (x : SoftKeep s.heap h' → VR D adr h' v u) (t : Nat) : Q u ⟨h', s.gens, s.drawn, t, s.os⟩ := by
  have sk : SoftKeep s.heap h' := soft1 O₀.hard hs
  exact P adr h' t u (.turned hk hs (O sk).at) (S.turned hk O₀.hard hs hb O) (x sk)
theorem map_plain {l : Addr} {items : Array Value} {n : Nat} {h : Heap} (f : Array Value → Array Value) (ho : h.get? l = some { cls := .type "list", data := .seq items n }) : (h.update l (Obj.mapSeq f)).PlainList l (f items) := by
  obtain ⟨n', hm⟩ : ∃ n', Obj.mapSeq f { cls := .type "list", data := .seq items n } = { cls := .type "list", data := .seq (f items) n' } := ⟨_, rfl⟩
  exact ⟨n', by rw [Heap.get?_update_self _ ho (by rw [hm]; rfl), hm]⟩
inductive LI (H : MH) (k : Nat) (vs : List MV) (v : MV) (H' : MH) (z : Nat) : List MV → Prop
  | append (q : z = cd "append") (y : MV) (hz : vs.length < lim) (e : some (MV.none, H.upd k (.list (vs ++ [y]))) = some (v, H')) : LI H k vs v H' z [y]
  | pop (q : z = cd "pop") (y : MV) (hz : vs.length < lim) (e1 : vs.getLast? = some y) (e : some (y, H.upd k (.list vs.dropLast)) = some (v, H')) : LI H k vs v H' z []
theorem callL_inv {k : Nat} {vs as : List MV} {z : Nat} {v : MV} (e : callL H k vs z as = some (v, H')) : LI H k vs v H' z as := by
  unfold callL at e
  by_cases q : z = cd "append"
  · rw [if_pos q] at e
    obtain ⟨y, rfl, e⟩ := one_inv e
    exact gd e fun h e => .append q y h e
  · rw [if_neg q] at e
    by_cases q : z = cd "pop" ∧ as = []
    · rw [if_pos q] at e
      obtain ⟨q, rfl⟩ := q
      exact bnd e fun y e1 e => gd e fun h e => .pop q y h e1 e
    · rw [if_neg q] at e; cases e
theorem append_ok (S : St prog w B D adr H ρ env s.heap) {k : Nat} {a : Addr} {vs : List MV} {y : MV} {us : List Value} (e1 : H.get k = some (.list vs)) (ha : adr[k]? = some a) (hz : vs.length < lim)
    (x : VRs D adr s.heap [y] us) (P : PX prog w B D adr env ρ s .none (H.upd k (.list (vs ++ [y]))) Q) : wpAny (model prog w) A (call (.builtin "list.append") (.ref a :: us)) Q E s := by
  obtain ⟨a', ha', O⟩ := S.sr.obj k _ e1
  obtain rfl := Option.some.inj (ha.symm.trans ha')
  obtain ⟨ws, hl, hv, hb⟩ := O.listE
  have hn := hv.length.trans Array.length_toList
  obtain ⟨u, rfl, xu⟩ := x.inv1
  have hlim := lim_eq
  exact wpAny_list_append_plain hl (fun h' hl' hs => P.turn S ha O hs hb (fun sk => .list _ _ _ hl' (by rw [Array.toList_push]; exact (hv.append (.cons xu .nil)).mono (List.prefix_refl _) sk) hb) (fun _ => .none) _) (by rw [sizeLine_eq]; omega)
theorem pop_ok (S : St prog w B D adr H ρ env s.heap) {k : Nat} {a : Addr} {vs : List MV} {y : MV} (e1 : H.get k = some (.list vs)) (ha : adr[k]? = some a) (hz : vs.length < lim) (hg : vs.getLast? = some y)
    (P : PX prog w B D adr env ρ s y (H.upd k (.list vs.dropLast)) Q) : wpAny (model prog w) A (call (.builtin "list.pop") [.ref a]) Q E s := by
  obtain ⟨a', ha', O⟩ := S.sr.obj k _ e1
  obtain rfl := Option.some.inj (ha.symm.trans ha')
  obtain ⟨ws, ⟨n, ho⟩, hv, hb⟩ := O.listE
  have hn := hv.length.trans Array.length_toList
  have hlim := lim_eq
  rw [List.getLast?_eq_getElem?] at hg
  have hlen : vs.length - 1 < vs.length := (List.getElem?_eq_some_iff.mp hg).1
  obtain ⟨u, hu, xu⟩ := hv.get hg
  rw [Array.getElem?_toList, hn] at hu
  have q2 : (ws.eraseIdxIfInBounds (ws.size - 1)).toList = ws.toList.dropLast := by
    rw [Array.eraseIdxIfInBounds, dif_pos (by omega), Array.toList_eraseIdx, List.eraseIdx_eq_take_drop_succ, List.dropLast_eq_take, Array.length_toList, List.drop_eq_nil_of_le (by rw [Array.length_toList]; omega), List.append_nil]
  exact call_meets PySem.F.slot_list_pop ⟨_, ho, rfl⟩ PySem.F.entry_list_pop (PySem.F.args_list_pop_1 _) (PySem.MeetsSeq.list_pop_last a ws n u hu (by rw [sizeLine_eq]; omega))
    ⟨ho, P.turn S ha O (Heap.SameBut.update ..) hb (fun sk => .list _ _ _ (map_plain (fun xs => xs.eraseIdxIfInBounds (ws.size - 1)) ho) (by rw [q2]; exact hv.dropLast.mono (List.prefix_refl _) sk) hb) (fun sk => xu.mono (List.prefix_refl _) sk) _⟩
theorem ints_vrs {h : Heap} {us : List Value} {l : List Int} (x : IntsAre us l) : VRs D adr h (l.map .int) us :=
  IntsAre.rec .nil (fun n t _ _ _ ih => .cons (.int n t) ih) x
theorem get_ok {es : List (MV × MV)} {a : Addr} {k dv : MV} {uk ud : Value} {α : Type} [DecidableEq α] {knd : KeyKind prog w α} {kvs : List (α × Value)} {q : α} (K : KeyOk prog w B D adr s.heap es a k uk α knd kvs q) (S : St prog w B D adr H ρ env s.heap) (x' : VR D adr s.heap dv ud)
    (P : PX prog w B D adr env ρ s ((dGet k es).getD dv) H Q) : Q ((valueAt kvs q).getD ud) s := by
  cases hg : dGet k es with
  | none =>
    rw [hg] at P
    rw [K.miss hg]
    exact P.here S s.toks x'
  | some v =>
    rw [hg] at P
    obtain ⟨u, hu, xu⟩ := K.get v hg
    rw [hu]
    exact P.here S s.toks xu
theorem callD_inv {es : List (MV × MV)} {as : List MV} {v : MV} {z : Nat} (e : callD H es z as = some (v, H')) : z = cd "get" ∧ ∃ y, okKey y es = true ∧ ((as = [y] ∧ some ((dGet y es).getD .none, H) = some (v, H')) ∨ ∃ d, as = [y, d] ∧ some ((dGet y es).getD d, H) = some (v, H')) := by
  refine gd e fun q e => ⟨q, ?_⟩
  rcases as with _ | ⟨y, _ | ⟨d, _ | ⟨c, as⟩⟩⟩
  · cases e
  · exact gd e fun h e => ⟨y, h, .inl ⟨rfl, e⟩⟩
  · exact gd e fun h e => ⟨y, h, .inr ⟨d, rfl, e⟩⟩
  · cases e
theorem callD_ok (S : St prog w B D adr H ρ env s.heap) {k : Nat} {a : Addr} {es : List (MV × MV)} {as : List MV} {us : List Value} {v : MV} {z : Nat} (e1 : H.get k = some (.dict es)) (ha : adr[k]? = some a) (e : callD H es z as = some (v, H'))
    (x : VRs D adr s.heap as us) (P : PX prog w B D adr env ρ s v H' Q) : wpAny (model prog w) A (call (.builtin "dict.get") (.ref a :: us)) Q E s := by
  obtain ⟨a', ha', O⟩ := S.sr.obj k _ e1
  obtain rfl := Option.some.inj (ha.symm.trans ha')
  obtain ⟨_, y, hk, ⟨rfl, e'⟩ | ⟨d, rfl, e'⟩⟩ := callD_inv e
  · obtain ⟨u, rfl, xu⟩ := x.inv1
    obtain ⟨α, _, knd, kvs, q, K⟩ := key_ok O xu hk
    exact call_meetsIn PySem.F.slot_dict_get K.hd.typeIs PySem.F.entry_dict_get (PySem.F.args_dict_get_2 _ _) (meets_dict_get knd a K.is_ (not_sm K.off)) ⟨_, K.hd.mapOf, get_ok K S .none (P.of e')⟩
  · obtain ⟨u, u', rfl, xu, xu'⟩ := x.inv2
    obtain ⟨α, _, knd, kvs, q, K⟩ := key_ok O xu hk
    exact call_meetsIn PySem.F.slot_dict_get K.hd.typeIs PySem.F.entry_dict_get (PySem.F.args_dict_get_3 _ _ _) (meets_dict_get_default knd a K.is_ (not_sm K.off) _) ⟨_, K.hd.mapOf, get_ok K S xu' (P.of e')⟩
end
end Mn
end
section
set_option maxRecDepth 100000
namespace Mn
open PySem PySem.W PyProof.Rows PySem.Calls SeqAt
structure Room (A : Around) (d : Nat) : Prop where
  hh : A.handled = none
  depth : A.depth + 4 * d + 4 < recursionLimit
  units : A.units + 16 * d + 100 < cLine
noncomputable def Po (prog : Program) (w : World) (B : Heap) (D : Ad) (adr : List Addr) (env : Env) (s : Shared) (H' : MH) (ρ' : Loc) {α : Type} (R : List Addr → Heap → α → Prop) (Q : α → Shared → Prop) : Prop :=
  ∀ adr' h' t a, Tn adr env s.heap adr' h' → St prog w B D adr' H' ρ' env h' → R adr' h' a → Q a ⟨h', s.gens, s.drawn, t, s.os⟩
theorem Po.after {prog : Program} {w : World} {B : Heap} {D : Ad} {adr adr₁ : List Addr} {env : Env} {s : Shared} {H' : MH} {ρ' : Loc} {α : Type} {R : List Addr → Heap → α → Prop} {Q : α → Shared → Prop} {h₁ : Heap}
    (P : Po prog w B D adr env s H' ρ' R Q) (T : Tn adr env s.heap adr₁ h₁) (t : Nat) : Po prog w B D adr₁ env ⟨h₁, s.gens, s.drawn, t, s.os⟩ H' ρ' R Q :=
  fun adr' h' t' a T' S' x => P adr' h' t' a (T.trans T') S' x
theorem Po.here {prog : Program} {w : World} {B : Heap} {D : Ad} {adr : List Addr} {env : Env} {s : Shared} {H' : MH} {ρ' : Loc} {α : Type} {R : List Addr → Heap → α → Prop} {Q : α → Shared → Prop}
    (P : Po prog w B D adr env s H' ρ' R Q) (S : St prog w B D adr H' ρ' env s.heap) {a : α} (x : R adr s.heap a) (t : Nat) : Q a ⟨s.heap, s.gens, s.drawn, t, s.os⟩ := P adr s.heap t a (.refl ..) S x
theorem Po.of {prog : Program} {w : World} {B : Heap} {D : Ad} {adr : List Addr} {env : Env} {s : Shared} {H' H0 : MH} {ρ' : Loc} {v v' : MV} {Q : Value → Shared → Prop} (e : some (v', H0) = some (v, H')) (P : Po prog w B D adr env s H' ρ' (fun adr' h' u => VR D adr' h' v u) Q) :
    Po prog w B D adr env s H0 ρ' (fun adr' h' u => VR D adr' h' v' u) Q := PX.of e P
theorem Po.ofT {prog : Program} {w : World} {B : Heap} {D : Ad} {adr : List Addr} {env : Env} {s : Shared} {H' H0 : MH} {ρ' : Loc} {v v' : Bool} {Q : Bool → Shared → Prop} (e : some (v', H0) = some (v, H')) (P : Po prog w B D adr env s H' ρ' (fun _ _ c => c = v) Q) :
    Po prog w B D adr env s H0 ρ' (fun _ _ c => c = v') Q := by
  cases e
  exact P
noncomputable def OutR (D : Ad) (adr : List Addr) (h : Heap) : Out → Flow → Prop
  | .nxt, f => f = .next
  | .ret v, f => ∃ u, f = .ret u ∧ VR D adr h v u
theorem Po.ofS {prog : Program} {w : World} {B : Heap} {D : Ad} {adr : List Addr} {env : Env} {s : Shared} {H' H0 : MH} {ρ' ρ0 : Loc} {o o' : Out} {Q : Flow → Shared → Prop} (e : some (o', ρ0, H0) = some (o, ρ', H')) (P : Po prog w B D adr env s H' ρ' (fun adr' h' f => OutR D adr' h' o f) Q) :
    Po prog w B D adr env s H0 ρ0 (fun adr' h' f => OutR D adr' h' o' f) Q := by
  cases e
  exact P
structure FnOk (B : Heap) (D : Ad) (f : Nat) (F : MF) (o : Obj) (fd : FuncData) (body : List PySem.Stmt) (names : List Str) : Prop where
  at_ : B.get? (D.fa f) = some o
  data : o.data = .func fd
  code : B.CodeRec fd.code fd.qualname
  stm : fd.body = .stmts body
  clo : fd.closure = []
  glob : fd.globals = mainGlobals
  blt : fd.builtins = builtinsNs
  co : fd.scope.isCoroutine = false
  gen : fd.scope.isGenerator = false
  kind : fd.scope.kind = .function
  tr : all? (trS 40 fd.scope) body = some F.body
  params : F.params = names.map Mn.code
  low : ∀ x ∈ names, okS x
  nd : names.Nodup
  kinds : ∀ x ∈ names, fd.scope.names.lookup x = some .local ∨ fd.scope.names.lookup x = some .cell
  keys : (fd.scope.names.map (·.1)).Nodup
  bind : ∀ s : Shared, (∀ b o, B.get? b = some o → s.heap.get? b = some o) → ∀ vals : List Value, vals.length = names.length → BindsTo s fd ⟨vals, []⟩ (names.zip vals)
structure Cx (prog : Program) (w : World) (K : Frag) (B : Heap) (D : Ad) (P : Pg) : Prop where
  X : K.In B
  nolimit : B.NoLimit
  glb : ∃ mg mb, B.Ns mainGlobals mg ∧ B.Ns builtinsNs mb ∧ ∀ x v, okS x → P.glb (code x) = some v → ∃ u, (mg x = some u ∨ (mg x = none ∧ mb x = some u)) ∧ VR D [] B v u
  fn : ∀ f F, P.fns f = some F → ∃ o fd body names, FnOk B D f F o fd body names
  fnf : ∀ f, (P.fns f).isSome = true → keepIn K (.ref (D.fa f)) = true ∧ fnIn K (D.fa f) = true
  cls : ∀ c, ((∃ x, P.atr c x = true) ∨ ∃ x f, P.meth c x = some f) → ClsOk K D P c
section
variable {prog : Program} {w : World} {K : Frag} {B : Heap} {D : Ad} {P : Pg}
variable (prog w B D) in
noncomputable def SX (E : Ev) (d : Nat) : Prop := ∀ (m : Nat) (ex : PySem.Expr) (e : MX) (A : Around) (Er : Value → Shared → Prop) (s : Shared) (adr : List Addr) (H H' : MH) (env : Env) (ρ : Loc) (v : MV) (Q : Value → Shared → Prop),
  trE m env.scope ex = some e → E.x e ρ H = some (v, H') → Room A d → St prog w B D adr H ρ env s.heap → Po prog w B D adr env s H' ρ (fun adr' h' u => VR D adr' h' v u) Q → wpAny (model prog w) A (eval ex env) Q Er s
variable (prog w B D) in
noncomputable def ST (E : Ev) (d : Nat) : Prop := ∀ (m : Nat) (ex : PySem.Expr) (e : MX) (A : Around) (Er : Value → Shared → Prop) (s : Shared) (adr : List Addr) (H H' : MH) (env : Env) (ρ : Loc) (b : Bool) (Q : Bool → Shared → Prop),
  trE m env.scope ex = some e → E.t e ρ H = some (b, H') → Room A d → St prog w B D adr H ρ env s.heap → Po prog w B D adr env s H' ρ (fun _ _ c => c = b) Q → wpAny (model prog w) A (isTrue ex env (eval ex env)) Q Er s
variable (prog w B D) in
noncomputable def SC (E : Ev) (d : Nat) : Prop := ∀ (A : Around) (Er : Value → Shared → Prop) (s : Shared) (adr : List Addr) (H H' : MH) (env : Env) (ρ : Loc) (f v : MV) (as : List MV) (uf : Value) (us : List Value) (Q : Value → Shared → Prop),
  E.c f as H = some (v, H') → Room A d → St prog w B D adr H ρ env s.heap → VR D adr s.heap f uf → VRs D adr s.heap as us → Po prog w B D adr env s H' ρ (fun adr' h' u => VR D adr' h' v u) Q → wpAny (model prog w) A (call uf us) Q Er s
variable (prog w B D) in
noncomputable def SS (E : Ev) (d : Nat) : Prop := ∀ (m : Nat) (st : PySem.Stmt) (ms : MS) (A : Around) (Er : Value → Shared → Prop) (s : Shared) (adr : List Addr) (H H' : MH) (env : Env) (ρ ρ' : Loc) (o : Out) (Q : Flow → Shared → Prop),
  trS m env.scope st = some ms → E.s ms ρ H = some (o, ρ', H') → Room A d → St prog w B D adr H ρ env s.heap → Po prog w B D adr env s H' ρ' (fun adr' h' f => OutR D adr' h' o f) Q → wpAny (model prog w) A (exec st env) Q Er s
variable {E : Ev} {d : Nat} {A : Around} {Er : Value → Shared → Prop} {s : Shared} {adr : List Addr} {H H' : MH} {env : Env} {ρ ρ' : Loc}
theorem low_ok {z : Str} (h : low z = true) : okS z := fun c hc => of_decide_eq_true (List.all_eq_true.mp h c hc)
theorem okN_low {x : Str} (h : ¬ okN x = false) : okS x ∧ (x == ("__debug__" : Str)) = false ∧ (x == ("__classdict__" : Str)) = false := by
  rw [Bool.not_eq_false] at h
  unfold okN at h
  rw [Bool.and_eq_true, Bool.and_eq_true] at h
  exact ⟨low_ok h.1.1, by simpa using h.1.2, by simpa using h.2⟩
theorem vr_base {h : Heap} {v : MV} {u : Value} (S : SR prog w B D adr H h) (x : VR D [] B v u) : VR D adr h v u := x.mono (List.nil_prefix) (.of_keep S.base)
theorem x_cst {c : Const} {k : Nat} {pos : Pos} {v : MV} {Q : Value → Shared → Prop} (tr : trC c = some v) (S : St prog w B D adr H ρ env s.heap) (PQ : Po prog w B D adr env s H ρ (fun adr' h' u => VR D adr' h' v u) Q) :
    wpAny (model prog w) A (eval (.Constant c k pos) env) Q Er s := by
  have PQ : ∀ {v'}, some v' = some v → Po prog w B D adr env s H ρ (fun adr' h' u => VR D adr' h' v' u) Q := fun q => by rw [Option.some.inj q]; exact PQ
  cases c with
  | none => exact wpAny_Constant_none ((PQ tr).here S .none s.toks)
  | bool b => exact wpAny_Constant_bool ((PQ tr).here S (.bool _) s.toks)
  | int i => exact wpAny_Constant_int ((PQ tr).here S (.int _ _) _)
  | str z => exact gd tr fun h tr => wpAny_Constant_str ((PQ tr).here S (.str _ _ (low_ok h) _ rfl) _)
  | _ => cases tr
theorem trN_inv {sc : Scope} {x : Str} {e : MX} (tr : trN sc x = some e) : okS x ∧ (x == ("__debug__" : Str)) = false ∧ (((sc.names.lookup x = some .local ∨ sc.names.lookup x = some .cell) ∧ e = .loc (code x)) ∨ (sc.names.lookup x = some .globalImplicit ∧ e = .glb (code x))) := by
  unfold trN at tr
  by_cases hN : okN x = false
  · rw [if_pos hN] at tr; cases tr
  · rw [if_neg hN] at tr
    obtain ⟨h1, h2, _⟩ := okN_low hN
    refine ⟨h1, h2, ?_⟩
    split at tr
    · rename_i q; exact .inl ⟨.inl q, (Option.some.inj tr).symm⟩
    · rename_i q; exact .inl ⟨.inr q, (Option.some.inj tr).symm⟩
    · rename_i q; exact .inr ⟨q, (Option.some.inj tr).symm⟩
    · cases tr
theorem x_loc {x : Str} {pos : Pos} {v : MV} {Q : Value → Shared → Prop} (h1 : okS x) (h2 : (x == ("__debug__" : Str)) = false) (q : env.scope.names.lookup x = some .local ∨ env.scope.names.lookup x = some .cell) (hv : zhh (code x) ρ = some v)
    (S : St prog w B D adr H ρ env s.heap) (PQ : Po prog w B D adr env s H ρ (fun adr' h' u => VR D adr' h' v u) Q) : wpAny (model prog w) A (eval (.Name x pos) env) Q Er s := by
  rcases q with q | q
  · obtain ⟨m, hns, hval⟩ := S.lr.ns
    obtain ⟨u, hu, xu⟩ := hval x v h1 hv q
    exact wpAny_Name (wpAny_loadName_local S.en.kind q hns hu (PQ.here S xu s.toks)) h2
  · obtain ⟨c, u, hc, hu, xu⟩ := S.lr.cv x v h1 hv q
    exact wpAny_Name (wpAny_loadName_cell S.en.kind q hc hu (PQ.here S xu s.toks)) h2
theorem x_glb (C : Cx prog w K B D P) {x : Str} {pos : Pos} {v : MV} {Q : Value → Shared → Prop} (h1 : okS x) (h2 : (x == ("__debug__" : Str)) = false) (q : env.scope.names.lookup x = some .globalImplicit) (hv : P.glb (code x) = some v)
    (S : St prog w B D adr H ρ env s.heap) (PQ : Po prog w B D adr env s H ρ (fun adr' h' u => VR D adr' h' v u) Q) : wpAny (model prog w) A (eval (.Name x pos) env) Q Er s := by
  obtain ⟨mg, mb, g1, g2, g3⟩ := C.glb
  obtain ⟨u, hu, xu⟩ := g3 x v h1 hv
  have fin := PQ.here S (vr_base S.sr xu) s.toks
  have gl : (env.globals) = mainGlobals := S.en.glob
  rcases hu with hu | ⟨hu1, hu2⟩
  · exact Name_function_global S.en.kind q (loadGlobal_global (mg := mg) (by rw [gl]; exact g1.keeps S.sr.base) hu fin) h2
  · exact Name_function_global S.en.kind q (loadGlobal_builtin (mg := mg) (mb := mb) (by rw [gl]; exact g1.keeps S.sr.base) hu1 (by rw [S.en.blt]; exact g2.keeps S.sr.base) hu2 fin) h2
theorem star_ok {m : Nat} {sc : Scope} {e : PySem.Expr} {x : MX} (h : trE m sc e = some x) (rest : List PySem.Expr) (env : Env) : starEach (e :: rest) env = (false, eval e env) :: starEach rest env := by
  cases e <;> first | rfl | (cases m <;> cases h)
theorem marks_ok {m : Nat} {sc : Scope} {e : PySem.Expr} {x : MX} (h : trE m sc e = some x) (op : CmpOp) : behindInMarks op e = false := by
  cases e <;> first | rfl | (cases m <;> cases h)
theorem all_inv {α β : Type} {f : α → Option β} {a : α} {l : List α} {r : List β} (e : all? f (a :: l) = some r) : ∃ b bs, f a = some b ∧ all? f l = some bs ∧ r = b :: bs :=
  bnd e fun b e1 e => bnd e fun bs e2 e => ⟨b, bs, e1, e2, (Option.some.inj e).symm⟩
theorem all_nil {α β : Type} {f : α → Option β} {r : List β} (e : all? f [] = some r) : r = [] := (Option.some.inj e).symm
theorem x_evs (hx : SX prog w B D E d) {m : Nat} {pos : Pos} {es : List PySem.Expr} : ∀ {ms : List MX} {s : Shared} {adr : List Addr} {H : MH} {vs : List MV} {Q : List Value → Shared → Prop}, all? (trE m env.scope) es = some ms → evs E ms ρ H = some (vs, H') → Room A d →
    St prog w B D adr H ρ env s.heap → Po prog w B D adr env s H' ρ (fun adr' h' us => VRs D adr' h' vs us) Q → wpAny (model prog w) A (spliced (backTo pos (starEach es env))) Q Er s := by
  induction es with
  | nil =>
    intro ms s adr H vs Q tr e R S PQ
    obtain rfl := all_nil tr
    have q := Option.some.inj e
    obtain rfl : H' = H := (congrArg Prod.snd q).symm
    obtain rfl : vs = [] := (congrArg Prod.fst q).symm
    exact wpAny_items_nil (PQ.here S .nil s.toks)
  | cons x es ih =>
    intro ms s adr H vs Q tr e R S PQ
    obtain ⟨a, as, t1, t2, rfl⟩ := all_inv tr
    refine bnd2 e fun v H1 e1 e => bnd2 e fun vs' H2 e2 e => ?_
    have q := Option.some.inj e
    obtain rfl : H' = H2 := (congrArg Prod.snd q).symm
    obtain rfl : vs = v :: vs' := (congrArg Prod.fst q).symm
    exact wpAny_items_cons (hx m x a A Er s adr H H1 env ρ v _ t1 e1 R S fun adr1 h1 k1 u1 T1 S1 x1 => ih (s := ⟨h1, s.gens, s.drawn, k1, s.os⟩) t2 e2 R S1 fun adr2 h2 k2 us T2 S2 x2 =>
      PQ adr2 h2 k2 (u1 :: us) (T1.trans T2) S2 (.cons (S1.vt T2 x1) x2)) (star_ok t1 es env)
theorem x_bin (hx : SX prog w B D E d) {m : Nat} {l r : PySem.Expr} {op : Operator} {pos : Pos} {a b : MX} {o : Op} {v : MV} {Q : Value → Shared → Prop} (t1 : trE m env.scope l = some a) (t2 : trOp op = some o) (t3 : trE m env.scope r = some b)
    (e : ((E.x a ρ H).bind fun u => (E.x b ρ u.2).bind fun v => binop o u.1 v.1 v.2) = some (v, H')) (R : Room A d) (S : St prog w B D adr H ρ env s.heap) (PQ : Po prog w B D adr env s H' ρ (fun adr' h' u => VR D adr' h' v u) Q) :
    wpAny (model prog w) A (eval (.BinOp l op r pos) env) Q Er s :=
  bnd2 e fun va H1 e1 e => bnd2 e fun vb H2 e2 e =>
  wpAny_BinOp (hx m l a A Er s adr H H1 env ρ va _ t1 e1 R S fun adr1 h1 k1 u1 T1 S1 x1 =>
  hx m r b A Er ⟨h1, s.gens, s.drawn, k1, s.os⟩ adr1 H1 H2 env ρ vb _ t3 e2 R S1 fun adr2 h2 k2 u2 T2 S2 x2 =>
  binop_ok (s := ⟨h2, s.gens, s.drawn, k2, s.os⟩) e t2 S2 (S1.vt T2 x1) x2 (PQ.after (T1.trans T2) k2))
theorem x_neg (hx : SX prog w B D E d) {m : Nat} {x : PySem.Expr} {pos : Pos} {a : MX} {v : MV} {Q : Value → Shared → Prop} (t1 : trE m env.scope x = some a)
    (e : ((E.x a ρ H).bind fun u => (asInt u.1).bind fun i => some (MV.int (-i), u.2)) = some (v, H')) (R : Room A d) (S : St prog w B D adr H ρ env s.heap) (PQ : Po prog w B D adr env s H' ρ (fun adr' h' u => VR D adr' h' v u) Q) :
    wpAny (model prog w) A (eval (.UnaryOp .USub x pos) env) Q Er s := by
  refine bnd2 e fun va H1 e1 e => bnd e fun i e2 e => wpAny_UnaryOp (hx m x a A Er s adr H H1 env ρ va _ t1 e1 R S fun adr1 h1 k1 u1 T1 S1 x1 => ?_)
  obtain ⟨t, rfl⟩ := asInt_vr e2 x1
  exact PyProof.Rows.neg_int (s := ⟨h1, s.gens, s.drawn, k1, s.os⟩) (((PQ.of e).after T1 k1).here S1 (.int _ _) _)
theorem truth_ok {M : Model} {v : MV} {u : Value} {b : Bool} {h : Heap} {s : Shared} {Q : Bool → Shared → Prop} (e : truth v H = some b) (x : VR D adr h v u) (hQ : Q b s) : wpAny M A (truthy u) Q Er s := by
  cases v with
  | bool c => rw [show u = .bool c from x.inv]; exact wpAny_truthy_bool ((Option.some.inj e).symm ▸ hQ)
  | _ => cases e
theorem x_not (hx : SX prog w B D E d) {m : Nat} {x : PySem.Expr} {pos : Pos} {a : MX} {v : MV} {Q : Value → Shared → Prop} (t1 : trE m env.scope x = some a)
    (e : ((E.x a ρ H).bind fun u => (truth u.1 u.2).bind fun b => some (MV.bool (!b), u.2)) = some (v, H')) (R : Room A d) (S : St prog w B D adr H ρ env s.heap) (PQ : Po prog w B D adr env s H' ρ (fun adr' h' u => VR D adr' h' v u) Q) :
    wpAny (model prog w) A (eval (.UnaryOp .Not x pos) env) Q Er s :=
  bnd2 e fun va H1 e1 e => bnd e fun b e2 e => wpAny_UnaryOp (hx m x a A Er s adr H H1 env ρ va _ t1 e1 R S fun adr1 h1 k1 u1 T1 S1 x1 =>
  not_of (s := ⟨h1, s.gens, s.drawn, k1, s.os⟩) (truth_ok e2 x1 (((PQ.of e).after T1 k1).here S1 (.bool _) _)))
theorem cmp_pair (hx : SX prog w B D E d) {m : Nat} {l r : PySem.Expr} {a b : MX} {va vb : MV} {H1 H2 : MH} {op : CmpOp} {o : Co} {g : Bool} {Q : Value → Shared → Prop} (t1 : trE m env.scope l = some a) (t2 : trCo op = some o) (t3 : trE m env.scope r = some b) (e1 : E.x a ρ H = some (va, H1)) (e2 : E.x b ρ H1 = some (vb, H2)) (e3 : compare o va vb H2 = some g)
    (R : Room A d) (S : St prog w B D adr H ρ env s.heap) (k : ∀ adr2 h2 (k2 : Nat) u2, Tn adr env s.heap adr2 h2 → St prog w B D adr2 H2 ρ env h2 → VR D adr2 h2 vb u2 → ∀ t, Q (.bool g) ⟨h2, s.gens, s.drawn, t, s.os⟩) {Q' : Value → Value → Shared → Prop}
    (kk : ∀ u1 u2 s', wpAny (model prog w) A (compareOp op u1 u2) Q Er s' → Q' u1 u2 s') :
    wpAny (model prog w) A (eval l env) (fun u1 s1 => wpAny (model prog w) A (eval r env) (fun u2 s2 => Q' u1 u2 s2) Er s1) Er s :=
  hx m l a A Er s adr H H1 env ρ va _ t1 e1 R S fun adr1 h1 k1 u1 T1 S1 x1 =>
  hx m r b A Er ⟨h1, s.gens, s.drawn, k1, s.os⟩ adr1 H1 H2 env ρ vb _ t3 e2 R S1 fun adr2 h2 k2 u2 T2 S2 x2 => kk u1 u2 _
    (compare_ok (s := ⟨h2, s.gens, s.drawn, k2, s.os⟩) e3 t2 S2.sr (S1.vt T2 x1) x2 (by have := R.units; omega) (k adr2 h2 k2 u2 (T1.trans T2) S2 x2))
theorem x_cmp (hx : SX prog w B D E d) {m : Nat} {l r : PySem.Expr} {op : CmpOp} {pos : Pos} {a b : MX} {o : Co} {v : MV} {Q : Value → Shared → Prop} (t1 : trE m env.scope l = some a) (t2 : trCo op = some o) (t3 : trE m env.scope r = some b)
    (e : ((E.x a ρ H).bind fun u => (E.x b ρ u.2).bind fun v => (compare o u.1 v.1 v.2).bind fun r => some (MV.bool r, v.2)) = some (v, H')) (R : Room A d) (S : St prog w B D adr H ρ env s.heap) (PQ : Po prog w B D adr env s H' ρ (fun adr' h' u => VR D adr' h' v u) Q) :
    wpAny (model prog w) A (eval (.Compare l [op] [r] pos) env) Q Er s :=
  bnd2 e fun va H1 e1 e => bnd2 e fun vb H2 e2 e => bnd e fun g e3 e =>
  wpAny_Compare1 (cmp_pair hx t1 t2 t3 e1 e2 e3 R S (fun adr2 h2 k2 u2 T2 S2 _ t => ((PQ.of e).after T2 k2).here S2 (.bool _) t) fun _ _ _ h => h) (marks_ok t3 op)
end
end Mn
end
section
set_option maxRecDepth 100000
namespace Mn
open PySem PySem.W PyProof.Rows PySem.Calls SeqAt
section
variable {prog : Program} {w : World} {K : Frag} {B : Heap} {D : Ad} {P : Pg}
variable {E : Ev} {d : Nat} {A : Around} {Er : Value → Shared → Prop} {s : Shared} {adr : List Addr} {H H' : MH} {env : Env} {ρ ρ' : Loc}
theorem x_bops (hx : SX prog w B D E d) {m : Nat} {pos : Pos} {op : BoolOp} {es : List PySem.Expr} : ∀ {ms : List MX} {s : Shared} {adr : List Addr} {H : MH} {v : MV} {Q : Value → Shared → Prop}, all? (trE m env.scope) es = some ms → bops E (conj op) ms ρ H = some (v, H') → Room A d →
    St prog w B D adr H ρ env s.heap → Po prog w B D adr env s H' ρ (fun adr' h' u => VR D adr' h' v u) Q → wpAny (model prog w) A (boolOp pos op (evalEach es env)) Q Er s := by
  induction es with
  | nil =>
    intro ms s adr H v Q tr e R S PQ
    obtain rfl := all_nil tr
    cases e
  | cons x es ih =>
    intro ms s adr H v Q tr e R S PQ
    obtain ⟨a, as, t1, t2, rfl⟩ := all_inv tr
    cases es with
    | nil =>
      obtain rfl := all_nil t2
      exact hx m x a A Er s adr H H' env ρ v _ t1 e R S PQ
    | cons y es =>
      obtain ⟨a', as', _, _, rfl⟩ := all_inv t2
      have e : ((E.x a ρ H).bind fun u => (truth u.1 u.2).bind fun b => if b = conj op then bops E (conj op) (a' :: as') ρ u.2 else some u) = some (v, H') := e
      refine bnd2 e fun va H1 e1 e => bnd e fun b e2 e => ?_
      show wpAny (model prog w) A (do
        let v ← eval x env
        standAt pos
        let t ← holding [v] (truthy v)
        match op, t with
        | .And, false | .Or, true => pure v
        | _, _ => boolOp pos op (evalEach (y :: es) env)) Q Er s
      refine wpAny_bind (hx m x a A Er s adr H H1 env ρ va _ t1 e1 R S fun adr1 h1 k1 u1 T1 S1 x1 => wpAny_bind (wpAny_standAt (wpAny_bind (wpAny_holding (truth_ok e2 x1 ?_)))))
      have next : ∀ b', b' = conj op → (if b' = conj op then bops E (conj op) (a' :: as') ρ H1 else some (va, H1)) = some (v, H') → wpAny (model prog w) A (boolOp pos op (evalEach (y :: es) env)) Q Er ⟨h1, s.gens, s.drawn, k1, s.os⟩ :=
        fun b' q e => ih (s := ⟨h1, s.gens, s.drawn, k1, s.os⟩) (Q := Q) t2 (by rw [if_pos q] at e; exact e) R S1 (PQ.after T1 k1)
      have last : ∀ b', b' ≠ conj op → (if b' = conj op then bops E (conj op) (a' :: as') ρ H1 else some (va, H1)) = some (v, H') → wpAny (model prog w) A (pure u1) Q Er ⟨h1, s.gens, s.drawn, k1, s.os⟩ :=
        fun b' q e => wpAny_pure (((PQ.of (by rw [if_neg q] at e; exact e)).after T1 k1).here S1 x1 k1)
      cases op with
      | And => cases b with
        | true => exact next true rfl e
        | false => exact last false Bool.false_ne_true e
      | Or => cases b with
        | true => exact last true Bool.false_ne_true.symm e
        | false => exact next false rfl e
theorem x_cmp2 (hx : SX prog w B D E d) {m : Nat} {l r r' : PySem.Expr} {op op' : CmpOp} {pos : Pos} {a b c : MX} {o o' : Co} {v : MV} {Q : Value → Shared → Prop} (t1 : trE m env.scope l = some a) (t2 : trCo op = some o) (t3 : trE m env.scope r = some b)
    (t4 : trCo op' = some o') (t5 : trE m env.scope r' = some c)
    (e : ((E.x a ρ H).bind fun u => (E.x b ρ u.2).bind fun v => (compare o u.1 v.1 v.2).bind fun r => match r with
      | true => (E.x c ρ v.2).bind fun w => (compare o' v.1 w.1 w.2).bind fun r' => some (MV.bool r', w.2)
      | false => some (MV.bool false, v.2)) = some (v, H')) (R : Room A d) (S : St prog w B D adr H ρ env s.heap) (PQ : Po prog w B D adr env s H' ρ (fun adr' h' u => VR D adr' h' v u) Q) :
    wpAny (model prog w) A (eval (.Compare l [op, op'] [r, r'] pos) env) Q Er s := by
  refine bnd2 e fun va H1 e1 e => bnd2 e fun vb H2 e2 e => bnd e fun g e3 e => ?_
  have hu : A.units + 12 < cLine := by have := R.units; omega
  refine Compare_chain (hx m l a A Er s adr H H1 env ρ va _ t1 e1 R S fun adr1 h1 k1 u1 T1 S1 x1 => ?_) (by simp [lastMarks, marks_ok t5 op'])
  refine chain_link (hx m r b A Er ⟨h1, s.gens, s.drawn, k1, s.os⟩ adr1 H1 H2 env ρ vb _ t3 e2 R S1 fun adr2 h2 k2 u2 T2 S2 x2 => ?_)
  refine compare_ok (s := ⟨h2, s.gens, s.drawn, k2, s.os⟩) e3 t2 S2.sr (S1.vt T2 x1) x2 hu fun t => wpAny_truthy_bool ?_
  cases g with
  | false => exact ((PQ.of e).after (T1.trans T2) k2).here S2 (.bool _) t
  | true =>
    exact bnd2 e fun vc H3 e4 e => bnd e fun g' e5 e => chain_last (hx m r' c A Er ⟨h2, s.gens, s.drawn, t, s.os⟩ adr2 H2 H3 env ρ vc _ t5 e4 R S2 fun adr3 h3 k3 u3 T3 S3 x3 =>
      compare_ok (s := ⟨h3, s.gens, s.drawn, k3, s.os⟩) e5 t4 S3.sr (S2.vt T3 x2) x3 hu fun t => ((PQ.of e).after ((T1.trans T2).trans T3) k3).here S3 (.bool _) t)
theorem x_ife (hx : SX prog w B D E d) (ht : ST prog w B D E d) {m : Nat} {c l r : PySem.Expr} {pos : Pos} {a b k : MX} {v : MV} {Q : Value → Shared → Prop} (t1 : trE m env.scope c = some k) (t2 : trE m env.scope l = some a) (t3 : trE m env.scope r = some b)
    (e : ((E.t k ρ H).bind fun u => match u.1 with | true => E.x a ρ u.2 | false => E.x b ρ u.2) = some (v, H')) (R : Room A d) (S : St prog w B D adr H ρ env s.heap) (PQ : Po prog w B D adr env s H' ρ (fun adr' h' u => VR D adr' h' v u) Q) :
    wpAny (model prog w) A (eval (.IfExp c l r pos) env) Q Er s := by
  refine bnd2 e fun g H1 e1 e => wpAny_IfExp (ht m c k A Er s adr H H1 env ρ g _ t1 e1 R S fun adr1 h1 k1 u1 T1 S1 x1 => ?_)
  rw [show u1 = g from x1]
  cases g with
  | true => exact hx m l a A Er ⟨h1, s.gens, s.drawn, k1, s.os⟩ adr1 H1 H' env ρ v _ t2 e R S1 (PQ.after T1 k1)
  | false => exact hx m r b A Er ⟨h1, s.gens, s.drawn, k1, s.os⟩ adr1 H1 H' env ρ v _ t3 e R S1 (PQ.after T1 k1)
theorem base_eq {o : PySem.Expr} (h : isCall o = false) (x : Str) (env : Env) (whole : Sem Value) : attributeBase o x env whole = whole := by
  cases o <;> first | rfl | cases h
theorem instAt_inv {o : MV} {q : Nat × Nat × List (MV × MV)} (e : instAt H o = some q) : ∃ k, o = .ref k ∧ H.get k = some (.inst q.1 q.2.1) ∧ H.get q.2.1 = some (.dict q.2.2) := by
  cases o with
  | ref k =>
    refine bnd e fun ob e1 e => ?_
    cases ob with
    | inst c d =>
      refine bnd e fun od e2 e => ?_
      cases od with
      | dict es => rw [← Option.some.inj e]; exact ⟨k, rfl, e1, e2⟩
      | _ => cases e
    | _ => cases e
  | _ => cases e
theorem attr_ok (C : Cx prog w K B D P) {z : Str} {o v : MV} {u : Value} (hz : okS z) (e : attr P H o (code z) = some v) (S : St prog w B D adr H ρ env s.heap) (x : VR D adr s.heap o u) {expr : Bool} {Q : Value → Shared → Prop} (PQ : Po prog w B D adr env s H ρ (fun adr' h' u => VR D adr' h' v u) Q) :
    wpAny (model prog w) A (getAttr u z expr) Q Er s := by
  refine bnd e fun q e1 e => ?_
  obtain ⟨k, rfl, e1, e2⟩ := instAt_inv e1
  refine gd e fun hk e => ?_
  have X := C.X.keeps S.sr.base
  by_cases ha : P.atr q.1 (code z) = true
  · rw [if_pos ha] at e
    exact bnd e fun v' e3 e => gd e fun hb e => attr_value X (C.cls _ (.inl ⟨_, ha⟩)) S.sr hz e1 e2 hk ha (e3.trans e) (Option.some.inj e ▸ hb) x fun u' t x' => PQ.here S x' t
  · rw [if_neg ha] at e
    exact gd e fun e3 e => bnd e fun f e4 e => attr_bound X (C.cls _ (.inr ⟨_, _, e4⟩)) S hz e1 e2 hk e4 e3 x (PX.of (congrArg (Option.map fun v => (v, H)) e) PQ)
theorem x_att (C : Cx prog w K B D P) (hx : SX prog w B D E d) {m : Nat} {o : PySem.Expr} {z : Str} {pos : Pos} {a : MX} {v : MV} {Q : Value → Shared → Prop} (hz : okS z) (hc : isCall o = false) (t1 : trE m env.scope o = some a)
    (e : ((E.x a ρ H).bind fun u => (attr P u.2 u.1 (code z)).bind fun v => some (v, u.2)) = some (v, H')) (R : Room A d) (S : St prog w B D adr H ρ env s.heap) (PQ : Po prog w B D adr env s H' ρ (fun adr' h' u => VR D adr' h' v u) Q) :
    wpAny (model prog w) A (eval (.Attribute o z pos) env) Q Er s := by
  rw [arm_eval_Attribute, base_eq hc]
  exact bnd2 e fun va H1 e1 e => bnd e fun v' e2 e => wpAny_bind (hx m o a A Er s adr H H1 env ρ va _ t1 e1 R S fun adr1 h1 k1 u1 T1 S1 x1 =>
    wpAny_bind (wpAny_standAt (wpAny_bind (wpAny_holding (attr_ok (s := ⟨h1, s.gens, s.drawn, k1, s.os⟩) C hz e2 S1 x1 fun adr2 h2 k2 u2 T2 S2 x2 => wpAny_bind (wpAny_letTemporaryGo (wpAny_pure (PQ.of e adr2 h2 k2 u2 (T1.trans T2) S2 x2))))))))
theorem slice_not {m : Nat} {sc : Scope} {i : PySem.Expr} {x : MX} (h : trE m sc i = some x) : isSlc i = false := by
  cases i with
  | Slice => cases m <;> cases h
  | _ => rfl
theorem x_sub (hx : SX prog w B D E d) {m : Nat} {o i : PySem.Expr} {pos : Pos} {a b : MX} {v : MV} {Q : Value → Shared → Prop} (t1 : trE m env.scope o = some a) (t2 : trE m env.scope i = some b)
    (e : ((E.x a ρ H).bind fun u => (E.x b ρ u.2).bind fun v => (item v.2 u.1 v.1).bind fun r => some (r, v.2)) = some (v, H')) (R : Room A d) (S : St prog w B D adr H ρ env s.heap) (PQ : Po prog w B D adr env s H' ρ (fun adr' h' u => VR D adr' h' v u) Q) :
    wpAny (model prog w) A (eval (.Subscript o i pos) env) Q Er s :=
  bnd2 e fun va H1 e1 e => bnd2 e fun vb H2 e2 e => bnd e fun r e3 e => Subscript_ (hx m o a A Er s adr H H1 env ρ va _ t1 e1 R S fun adr1 h1 k1 u1 T1 S1 x1 =>
  hx m i b A Er ⟨h1, s.gens, s.drawn, k1, s.os⟩ adr1 H1 H2 env ρ vb _ t2 e2 R S1 fun adr2 h2 k2 u2 T2 S2 x2 =>
  item_ok (s := ⟨h2, s.gens, s.drawn, k2, s.os⟩) S2.sr e3 (S1.vt T2 x1) x2 (slice_not t2) fun u t x => ((PQ.of e).after (T1.trans T2) k2).here S2 x t)
theorem x_tup (hx : SX prog w B D E d) {m : Nat} {es : List PySem.Expr} {pos : Pos} {x1} {ms : List MX} {v : MV} {Q : Value → Shared → Prop} (tr : all? (trE m env.scope) es = some ms)
    (e : ((evs E ms ρ H).bind fun v => if v.1.length ≤ lim then some (MV.tup v.1, v.2) else none) = some (v, H')) (R : Room A d) (S : St prog w B D adr H ρ env s.heap) (PQ : Po prog w B D adr env s H' ρ (fun adr' h' u => VR D adr' h' v u) Q) :
    wpAny (model prog w) A (eval (.Tuple es x1 pos) env) Q Er s :=
  bnd2 e fun vs H1 e1 e => gd e fun hz e => wpAny_Tuple_spliced (x_evs hx tr e1 R S fun adr1 h1 k1 us T1 S1 x1 => ⟨by rw [← x1.length]; exact Nat.le_trans hz (by decide),
    PX.tuple (s := ⟨h1, s.gens, s.drawn, k1, s.os⟩) (ws := us.toArray) ((PQ.of e).after T1 k1) S1 x1 k1⟩)
theorem x_lst (hx : SX prog w B D E d) {m : Nat} {es : List PySem.Expr} {pos : Pos} {ms : List MX} {v : MV} {Q : Value → Shared → Prop} (tr : all? (trE m env.scope) es = some ms)
    (e : ((evs E ms ρ H).bind fun v => newL v.2 v.1) = some (v, H')) (R : Room A d) (S : St prog w B D adr H ρ env s.heap) (PQ : Po prog w B D adr env s H' ρ (fun adr' h' u => VR D adr' h' v u) Q) :
    wpAny (model prog w) A (eval (.List es pos) env) Q Er s :=
  bnd2 e fun vs H1 e1 e => wpAny_List_spliced (x_evs hx tr e1 R S fun adr1 h1 k1 us T1 S1 x1 => PX.list (s := ⟨h1, s.gens, s.drawn, k1, s.os⟩) (ws := us.toArray) e (PQ.after T1 k1) S1 x1 k1)
theorem x_dct {pos : Pos} {Q : Value → Shared → Prop} (S : St prog w B D adr H ρ env s.heap) (PQ : Po prog w B D adr env s (H.new (.dict [])) ρ (fun adr' h' u => VR D adr' h' (.ref H.next) u) Q) :
    wpAny (model prog w) A (eval (.Dict [] [] pos) env) Q Er s := by
  rw [eval_Dict_empty]
  refine wpAny_bind (wpAny_standAt ?_)
  unfold newDict
  refine wpAny_newObj_type ?_ (by size_fits)
  exact PX.made PQ S keep_push none_size (fun hp => .dictS _ _ [] (Heap.DictOf.new s.heap) .nil (new_none S.sr)) s.toks
end
end Mn
end
section
set_option maxRecDepth 100000
namespace Mn
open PySem PySem.W PyProof.Rows PySem.Calls SeqAt
section
variable {prog : Program} {w : World} {K : Frag} {B : Heap} {D : Ad} {P : Pg}
variable {E : Ev} {d : Nat} {A : Around} {Er : Value → Shared → Prop} {s : Shared} {adr : List Addr} {H H' : MH} {env : Env} {ρ ρ' : Loc}
noncomputable def PartR (D : Ad) (adr : List Addr) (h : Heap) : Option MV → Value → Prop
  | none, u => u = .none
  | some v, u => VR D adr h v u
theorem x_evo (hx : SX prog w B D E d) {m : Nat} {eo : Option PySem.Expr} {mo : Option MX} {ov : Option MV} {Q : Value → Shared → Prop} (tr : opt? (trE m env.scope) eo = some mo) (e : evo E mo ρ H = some (ov, H')) (R : Room A d)
    (S : St prog w B D adr H ρ env s.heap) (PQ : Po prog w B D adr env s H' ρ (fun adr' h' u => PartR D adr' h' ov u) Q) : wpAny (model prog w) A (evalPart eo env) Q Er s := by
  cases eo with
  | none =>
    obtain rfl : mo = none := (Option.some.inj tr).symm
    have q := Option.some.inj e
    obtain rfl : H' = H := (congrArg Prod.snd q).symm
    obtain rfl : ov = none := (congrArg Prod.fst q).symm
    exact wpAny_evalPart_none (PQ.here S rfl s.toks)
  | some x =>
    refine bnd tr fun a t1 tr => ?_
    obtain rfl : mo = some a := (Option.some.inj tr).symm
    refine bnd2 e fun v H1 e1 e => ?_
    have q := Option.some.inj e
    obtain rfl : H' = H1 := (congrArg Prod.snd q).symm
    obtain rfl : ov = some v := (congrArg Prod.fst q).symm
    exact wpAny_evalPart_some (hx m x a A Er s adr H H' env ρ v _ t1 e1 R S PQ)
theorem PartR.mono {h h' : Heap} {adr' : List Addr} {ov : Option MV} {u : Value} (hp : adr <+: adr') (hs : SoftKeep h h') (x : PartR D adr h ov u) : PartR D adr' h' ov u := by
  cases ov with
  | none => exact x
  | some v => exact VR.mono hp hs x
theorem cut_ok {vs r : List MV} {us : List Value} {lo hi : Option MV} {ul uh : Value} {h : Heap} (e : cut vs lo hi = some r) (hv : VRs D adr h vs us) (xl : PartR D adr h lo ul) (xh : PartR D adr h hi uh) :
    ∃ l g, IsPart ul l ∧ IsPart uh g ∧ VRs D adr h r (slicePick us.toArray l g none).toList := by
  cases lo with
  | none =>
    obtain rfl : ul = .none := xl
    cases hi with
    | none => cases e
    | some v =>
      refine bnd e fun j e1 e => gd e fun hj e => ?_
      obtain ⟨t, rfl⟩ := asInt_vr e1 xh
      refine ⟨none, some j, .none, .int _ _, ?_⟩
      have q : slicePick us.toArray none (some j) none = (us.take j.toNat).toArray := by
        have := slicePick_upto' us.toArray j.toNat
        rw [show ((j.toNat : Nat) : Int) = j by omega] at this
        exact this
      rw [q, ← Option.some.inj e]
      exact hv.take _
  | some v =>
    cases hi with
    | some _ => cases e
    | none =>
      obtain rfl : uh = .none := xh
      refine bnd e fun j e1 e => gd e fun hj e => ?_
      obtain ⟨t, rfl⟩ := asInt_vr e1 xl
      refine ⟨some j, none, .int _ _, .none, ?_⟩
      have q : slicePick us.toArray (some j) none none = (us.drop j.toNat).toArray := by
        have := slicePick_from' us.toArray j.toNat
        rw [show ((j.toNat : Nat) : Int) = j by omega] at this
        exact this
      rw [q, ← Option.some.inj e]
      exact hv.drop _
theorem slice_ok {va v : MV} {vl vh : Option MV} {u1 u2 u3 : Value} {Q : Value → Shared → Prop} {value : PySem.Expr} {lo hi : Option PySem.Expr} {p : Pos} (e : slice H va vl vh = some (v, H')) (S : St prog w B D adr H ρ env s.heap) (x1 : VR D adr s.heap va u1) (x2 : PartR D adr s.heap vl u2) (x3 : PartR D adr s.heap vh u3)
    (PQ : Po prog w B D adr env s H' ρ (fun adr' h' u => VR D adr' h' v u) Q) :
    wpAny (model prog w) A (subscriptTail value (.Slice lo hi none p) u1 (.ref s.heap.objs.size)) Q Er { s with heap := s.heap.push { cls := .type "slice", data := .fields #[u2, u3, .none] } } := by
  refine bnd e fun vs e4 e => gd e fun hz e => bnd e fun r e5 e => gd e fun hz' e => ?_
  obtain ⟨k', b, ws, _, rfl, hb, hl, hv⟩ := listAt_ok S.sr e4 x1
  obtain ⟨l, g, p1, p2, p4⟩ := cut_ok e5 hv x2 x3
  have hn := hv.length.trans Array.length_toList
  have hlim := lim_eq
  refine tail_any (T := "list") (hl.push _).typeIs list_getitem_lookup (wpAny_getItem_list_slice (hl.push _) (Heap.IsSliceOf.new ..) p1 p2 .none (by simp) ?_ (by rw [sizeLine_eq]; omega)) rfl
  dsimp only
  rw [Heap.size_push]
  have k0 : ∀ b o, s.heap.get? b = some o → ((s.heap.push { cls := .type "slice", data := .fields #[u2, u3, .none] }).push { cls := .type "list", data := .seq (slicePick ws l g none) }).get? b = some o := fun b o e => Heap.get?_push_of_some _ (Heap.get?_push_of_some _ e)
  refine PX.made (a := s.heap.objs.size + 1) (PX.of e PQ) S k0 (Heap.get?_none_of_le (Nat.le_succ _)) (fun hp => .list _ _ _ ⟨0, ?_⟩ (p4.mono hp (.of_keep k0)) (off_le S.sr (Nat.le_succ _))) s.toks
  have := Heap.get?_push_size (s.heap.push { cls := .type "slice", data := .fields #[u2, u3, .none] }) (o := { cls := .type "list", data := .seq (slicePick ws l g none) }) rfl
  rw [Heap.size_push] at this
  exact this
theorem x_slc (hx : SX prog w B D E d) {m : Nat} {o : PySem.Expr} {lo hi : Option PySem.Expr} {p pos : Pos} {a : MX} {ml mh : Option MX} {v : MV} {Q : Value → Shared → Prop} (t1 : trE m env.scope o = some a) (t2 : opt? (trE m env.scope) lo = some ml) (t3 : opt? (trE m env.scope) hi = some mh)
    (e : ((E.x a ρ H).bind fun u => (evo E ml ρ u.2).bind fun v => (evo E mh ρ v.2).bind fun w => slice w.2 u.1 v.1 w.1) = some (v, H')) (R : Room A d) (S : St prog w B D adr H ρ env s.heap) (PQ : Po prog w B D adr env s H' ρ (fun adr' h' u => VR D adr' h' v u) Q) :
    wpAny (model prog w) A (eval (.Subscript o (.Slice lo hi none p) pos) env) Q Er s := by
  refine bnd2 e fun va H1 e1 e => bnd2 e fun vl H2 e2 e => bnd2 e fun vh H3 e3 e => Subscript_ (hx m o a A Er s adr H H1 env ρ _ _ t1 e1 R S fun adr1 h1 k1 u1 T1 S1 x1 =>
    wpAny_Slice (x_evo (s := ⟨h1, s.gens, s.drawn, k1, s.os⟩) hx t2 e2 R S1 fun adr2 h2 k2 u2 T2 S2 x2 => x_evo (s := ⟨h2, s.gens, s.drawn, k2, s.os⟩) hx t3 e3 R S2 fun adr3 h3 k3 u3 T3 S3 x3 => ?_))
  rw [evalPart_none]
  exact wpAny_pure (slice_ok (s := ⟨h3, s.gens, s.drawn, k3, s.os⟩) e S3 (S1.vt (T2.trans T3) x1) (x2.mono T3.pre (S2.soft T3.kp)) x3 (PQ.after ((T1.trans T2).trans T3) k3))
end
end Mn
end
section
set_option maxRecDepth 100000
namespace Mn
open PySem PySem.W PyProof.Rows PySem.Calls SeqAt
section
variable {prog : Program} {w : World} {K : Frag} {B : Heap} {D : Ad} {P : Pg}
variable {E : Ev} {d : Nat} {A : Around} {Er : Value → Shared → Prop} {s : Shared} {adr : List Addr} {H H' : MH} {env : Env} {ρ ρ' : Loc}
theorem kst_inv {k : Loc → MH → Option (Out × Loc × MH)} {o1 o : Out} {ρ1 : Loc} {H1 : MH} (e : kst k (o1, ρ1, H1) = some (o, ρ', H')) : (o1 = .nxt ∧ k ρ1 H1 = some (o, ρ', H')) ∨ ∃ v, o1 = .ret v ∧ some (Out.ret v, ρ1, H1) = some (o, ρ', H') := by
  cases o1 with
  | nxt => exact .inl ⟨rfl, e⟩
  | ret v => exact .inr ⟨v, rfl, e⟩
theorem x_stmts (hs : SS prog w B D E d) {m : Nat} {es : List PySem.Stmt} : ∀ {ms : List MS} {s : Shared} {adr : List Addr} {H : MH} {ρ : Loc} {o : Out} {Q : Flow → Shared → Prop}, all? (trS m env.scope) es = some ms → stmts E ms ρ H = some (o, ρ', H') → Room A d →
    St prog w B D adr H ρ env s.heap → Po prog w B D adr env s H' ρ' (fun adr' h' f => OutR D adr' h' o f) Q → wpAny (model prog w) A (execs es env) Q Er s := by
  induction es with
  | nil =>
    intro ms s adr H ρ o Q tr e R S PQ
    obtain rfl := all_nil tr
    exact wpAny_execs_nil ((PQ.ofS e).here S rfl s.toks)
  | cons x es ih =>
    intro ms s adr H ρ o Q tr e R S PQ
    obtain ⟨a, as, t1, t2, rfl⟩ := all_inv tr
    refine bnd3 e fun o1 ρ1 H1 e1 e => wpAny_execs_cons (hs m x a A Er s adr H H1 env ρ ρ1 o1 _ t1 e1 R S fun adr1 h1 k1 f1 T1 S1 x1 => ?_)
    rcases kst_inv e with ⟨rfl, e⟩ | ⟨v, rfl, e⟩
    · rw [show f1 = .next from x1]
      exact ih (s := ⟨h1, s.gens, s.drawn, k1, s.os⟩) t2 e R S1 (PQ.after T1 k1)
    · obtain ⟨u, rfl, xu⟩ := x1
      exact PQ.ofS e adr1 h1 k1 _ T1 S1 ⟨u, rfl, xu⟩
theorem binds_mem {h : Heap} {x : Str} {v : MV} (hx : okS x) {names : List Str} : ∀ {vs : List MV} {us : List Value}, (∀ y ∈ names, okS y) → VRs D adr h vs us → names.length = us.length → zhh (code x) ((names.map code).zip vs) = some v → ∃ u, (x, u) ∈ names.zip us ∧ VR D adr h v u := by
  induction names with
  | nil => intro vs us _ _ _ e; cases e
  | cons n names ih =>
    intro vs us hy hv hl e
    cases vs with
    | nil => cases e
    | cons v0 vs =>
      obtain ⟨u0, us, rfl, hv, hs⟩ := hv.inv
      have e : (if code n = code x then some v0 else zhh (code x) ((names.map code).zip vs)) = some v := (getL_ite _ _ _ _).symm.trans e
      by_cases q : code n = code x
      · rw [if_pos q] at e
        rw [code_inj (hy n (.head _)) hx q, ← Option.some.inj e]
        exact ⟨u0, .head _, hv⟩
      · rw [if_neg q] at e
        obtain ⟨u, m, r⟩ := ih (fun y h => hy y (.tail _ h)) hs (Nat.succ.inj hl) e
        exact ⟨u, .tail _ m, r⟩
theorem bindL_out {k : Str → Option NameKind} {x : Str} : ∀ {l : List (Str × Value)} {m : Str → Option Value}, x ∉ l.map (·.1) → bindL k l m x = m x
  | [], m, _ => rfl
  | (n, v) :: r, m, h => by
    rw [List.map_cons] at h
    show bindL k r _ x = _
    rw [bindL_out fun q => h (.tail _ q)]
    split
    · exact if_neg fun (e : x = n) => h (e ▸ .head _)
    · rfl
theorem bindL_mem {k : Str → Option NameKind} {x : Str} {u : Value} (hk : k x = some .local) : ∀ {l : List (Str × Value)} {m : Str → Option Value}, (l.map (·.1)).Nodup → (x, u) ∈ l → bindL k l m x = some u
  | [], _, _, h => nomatch h
  | (n, v) :: r, m, hn, h => by
    rw [List.map_cons, List.nodup_cons] at hn
    show bindL k r _ x = _
    rcases List.mem_cons.mp h with e | h
    · obtain rfl : x = n := congrArg Prod.fst e
      rw [bindL_out hn.1, if_pos hk, show u = v from congrArg Prod.snd e]
      exact if_pos rfl
    · exact bindL_mem hk hn.2 h
theorem bindC_out {k : Str → Option NameKind} {x : Str} : ∀ {l : List (Str × Value)} {m : Str → Option Value}, x ∉ l.map (·.1) → bindC k l m x = m x
  | [], m, _ => rfl
  | (n, v) :: r, m, h => by
    rw [List.map_cons] at h
    show bindC k r _ x = _
    rw [bindC_out fun q => h (.tail _ q)]
    split
    · rfl
    · exact if_neg fun (e : x = n) => h (e ▸ .head _)
theorem bindC_mem {k : Str → Option NameKind} {x : Str} {u : Value} (hk : k x = some .cell) : ∀ {l : List (Str × Value)} {m : Str → Option Value}, (l.map (·.1)).Nodup → (x, u) ∈ l → bindC k l m x = some u
  | [], _, _, h => nomatch h
  | (n, v) :: r, m, hn, h => by
    rw [List.map_cons, List.nodup_cons] at hn
    show bindC k r _ x = _
    rcases List.mem_cons.mp h with e | h
    · obtain rfl : x = n := congrArg Prod.fst e
      rw [bindC_out hn.1, if_neg (by rw [hk]; nofun), show u = v from congrArg Prod.snd e]
      exact if_pos rfl
    · exact bindC_mem hk hn.2 h
theorem cells_fst : ∀ (names : List (Str × NameKind)) (n : Nat) (acc : List (Str × Addr)), (cellsFrom n names acc).map (·.1) = ((names.filter fun p => p.2 == .cell).map (·.1)).reverse ++ acc.map (·.1)
  | [], n, acc => rfl
  | (nm, kd) :: r, n, acc => by
    unfold cellsFrom
    rw [List.filter_cons]
    by_cases q : (kd == NameKind.cell) = true
    · rw [if_pos q, if_pos q, cells_fst r, List.map_cons, List.map_cons, List.reverse_cons, List.append_assoc]; rfl
    · rw [if_neg q, if_neg q, cells_fst r]
theorem pick_nodup {α : Type} {f : Str × α → Bool} {names : List (Str × α)} (h : (names.map (·.1)).Nodup) : (((names.filter f).map Prod.fst).reverse ++ ([] : List Str)).Nodup := by
  rw [List.append_nil]
  exact List.pairwise_reverse.mpr ((List.Nodup.sublist (List.Sublist.map _ List.filter_sublist) h).imp Ne.symm)
theorem look_some {α : Type} {x : Str} : ∀ {l : List (Str × α)}, x ∈ l.map (·.1) → ∃ c, l.lookup x = some c
  | [], h => nomatch h
  | (n, c) :: r, h => by
    rw [List.lookup_cons]
    cases q : x == n with
    | true => exact ⟨c, rfl⟩
    | false => exact look_some ((List.mem_cons.mp h).elim (fun e => by rw [show x = n from e, beq_self_eq_true] at q; cases q) id)
theorem SR.grown (S : SR prog w B D adr H s.heap) {h' : Heap} (k : ∀ b o, s.heap.get? b = some o → h'.get? b = some o) : SR prog w B D adr H h' := by
  have hs : SoftKeep s.heap h' := .of_keep k
  refine ⟨fun b o e => k _ _ (S.base b o e), S.len, S.nd, fun i o e => ?_, S.full, S.st⟩
  obtain ⟨a, e1, O⟩ := S.obj i o e
  exact ⟨a, e1, O.mono (List.prefix_refl _) hs fun ob e => k _ _ e⟩
theorem St.left {env' : Env} {ρ₁ : Loc} {adr' : List Addr} {h₁ h' : Heap} (S : St prog w B D adr H ρ env s.heap) (k : ∀ b o, s.heap.get? b = some o → h₁.get? b = some o) (hf : ∀ a ∈ own env', s.heap.get? a = none)
    (T : Tn adr env' h₁ adr' h') (S' : St prog w B D adr' H' ρ₁ env' h') : Tn adr env s.heap adr' h' ∧ St prog w B D adr' H' ρ env h' := by
  have keep : ∀ b o, s.heap.get? b = some o → b ∉ adr → h'.get? b = some o := fun b o e n => T.kp.keep b o (k b o e) n fun q => by rw [hf b q] at e; cases e
  have new : ∀ a ∈ adr', a ∈ adr ∨ s.heap.get? a = none := fun a q => (T.new a q).elim .inl fun z => .inr (none_back (live_of k a) z)
  exact ⟨⟨T.pre, new, ⟨fun b o e n _ => keep b o e n, fun b e => T.kp.live b (live_of k b e)⟩⟩, ⟨S'.sr, S.lr.keep T.pre (soft_of S.sr.adr_hard keep) fun a q o e => keep a o e (S.en.offA a q), S.en.keep (S.lr.live S.en) new⟩⟩
theorem cells_held {names : List (Str × NameKind)} (n : Nat) {x : Str} (q : names.lookup x = some .cell) : ∃ c, (cellsFrom n names []).lookup x = some c := by
  refine look_some ?_
  rw [cells_fst]
  exact List.mem_append_left _ (List.mem_reverse.mpr (List.mem_map.mpr ⟨(x, .cell), List.mem_filter.mpr ⟨mem_of_lookup q, rfl⟩, rfl⟩))
theorem call_cells {s : Shared} {R : Result → Shared → Prop} {a : Addr} {o : Obj} {fd : FuncData} {body : List PySem.Stmt} {vals : List Value} {binds : List (Str × Value)}
    (hroom : A.depth < recursionLimit) (ho : s.heap.get? a = some o) (hdata : o.data = .func fd) (hlim : s.heap.NoLimit) (hcd : s.heap.CodeRec fd.code fd.qualname)
    (hbody : fd.body = .stmts body) (hbind : BindsTo s fd ⟨vals, []⟩ binds) (hclo : fd.closure = []) (hloc : ∀ x ∈ binds, fd.scope.names.lookup x.1 = some .local ∨ fd.scope.names.lookup x.1 = some .cell)
    (h : ∀ s₁, InCallC s (callEnvC fd s.heap.objs.size a).locals (bindL (callEnvC fd s.heap.objs.size a).kindOf binds fun _ => none) (callEnvC fd s.heap.objs.size a).cells
        (bindC (callEnvC fd s.heap.objs.size a).kindOf binds fun _ => none) s₁ →
      wpAny (model prog w) (A.deeper (callEnvC fd s.heap.objs.size a)) (execs body (callEnvC fd s.heap.objs.size a)) (fun f s' => R (.ok (.ret (match f with | .ret v => v | _ => .none))) s')
        (fun e s' => wpAny (model prog w) (A.deeper (callEnvC fd s.heap.objs.size a)) (leaving (callEnvC fd s.heap.objs.size a) e) (fun _ s'' => R (.error e) s'') (fun e' s'' => R (.error e') s'') s') s₁)
    (hco : fd.scope.isCoroutine = false) (hgen : fd.scope.isGenerator = false) (hk : fd.scope.kind = .function) :
    codeAny (model prog w) A (.call (.ref a) ⟨vals, []⟩) R s := by
  refine codeAny_call_function hroom ho hdata hco hgen hbody hcd (hbind _ _ _ _ ?_)
  rw [hclo]
  refine wpAny_newFunctionEnv_cells hk (fun x hx => (hloc x hx).imp id fun q => ⟨q, by obtain ⟨c, e⟩ := cells_held _ q; rw [e]; rfl⟩) fun env he s' x => ?_
  subst he
  exact ⟨hlim.keeps x.toInCall.keep, codeAny_func (h s' x)⟩
theorem krF_ok {o : Out} {ρ1 : Loc} {H1 : MH} {v : MV} {h : Heap} (e : krF (o, ρ1, H1) = some (v, H')) : H1 = H' ∧ ∀ {f : Flow}, OutR D adr h o f → VR D adr h v (match f with | .ret v => v | _ => .none) := by
  cases o with
  | nxt =>
    have q := Option.some.inj (show some (MV.none, H1) = some (v, H') from e)
    rw [← show MV.none = v from congrArg Prod.fst q]
    exact ⟨congrArg Prod.snd q, fun {f} x => by rw [show f = .next from x]; exact .none⟩
  | ret y =>
    have q := Option.some.inj (show some (y, H1) = some (v, H') from e)
    rw [← show y = v from congrArg Prod.fst q]
    exact ⟨congrArg Prod.snd q, fun x => by obtain ⟨u, rfl, x⟩ := x; exact x⟩
theorem fn_core (C : Cx prog w K B D P) (hs : SS prog w B D E d) {f : Nat} {as : List MV} {us : List Value} {v : MV} {Q : Value → Shared → Prop} (e : callF P E f as H = some (v, H')) (hd : A.depth + 4 * d + 6 < recursionLimit) (hu : A.units + 16 * d + 110 < cLine) (hh : A.handled = none)
    (S : SR prog w B D adr H s.heap) (xs : VRs D adr s.heap as us)
    (PQ : ∀ h1 env' ρ1 adr' h' t u, (∀ b o, s.heap.get? b = some o → h1.get? b = some o) → (∀ a ∈ own env', s.heap.get? a = none) → Tn adr env' h1 adr' h' → St prog w B D adr' H' ρ1 env' h' → VR D adr' h' v u → Q u ⟨h', s.gens, s.drawn, t, s.os⟩) :
    codeAny (model prog w) A (.call (.ref (D.fa f)) ⟨us, []⟩) (wants Q Er) s := by
  refine bnd e fun F e1 e => gd e fun hlen e => bnd3 e fun o1 ρ1 H1 e2 e => ?_
  obtain ⟨ob, fd, body, names, F1⟩ := C.fn f F e1
  have hnl : us.length = names.length := by rw [← xs.length, ← hlen.1, F1.params, List.length_map]
  have hin : ∀ {x u}, (x, u) ∈ names.zip us → fd.scope.names.lookup x = some .local ∨ fd.scope.names.lookup x = some .cell := fun hx => F1.kinds _ (List.of_mem_zip hx).1
  refine call_cells (by omega) (S.base _ _ F1.at_) F1.data (C.nolimit.keeps S.base) (F1.code.keeps S.base) F1.stm (F1.bind _ S.base us hnl) F1.clo (fun x hx => hin (show (x.1, x.2) ∈ names.zip us from hx)) (fun s₁ I => ?_) F1.co F1.gen F1.kind
  obtain ⟨h1, k1, rfl⟩ := I.toInCall.same
  have k : ∀ b o, s.heap.get? b = some o → h1.get? b = some o := I.toInCall.keep
  have hnd : ((callEnvC fd s.heap.objs.size (D.fa f)).cells.map (·.1)).Nodup := by
    show ((cellsFrom _ fd.scope.names []).map (·.1)).Nodup
    rw [cells_fst]
    exact pick_nodup F1.keys
  have hfr : ∀ a ∈ own (callEnvC fd s.heap.objs.size (D.fa f)), s.heap.get? a = none := fun a ha => by
    refine Heap.get?_none_of_le ?_
    rcases List.mem_cons.mp ha with e | ha
    · exact e ▸ Nat.le_refl _
    · obtain ⟨⟨n, c⟩, hm, e⟩ := List.mem_map.mp ha
      exact e ▸ Nat.le_of_lt (I.above n c hm)
  have St1 : St prog w B D adr H (F.params.zip as) (callEnvC fd s.heap.objs.size (D.fa f)) h1 := by
    have e0 : ∀ x v, okS x → zhh (code x) (F.params.zip as) = some v → ∃ u, (x, u) ∈ names.zip us ∧ VR D adr h1 v u := fun x v ok e => by
      rw [F1.params] at e
      exact binds_mem ok F1.low (xs.mono (List.prefix_refl _) (.of_keep k)) hnl.symm e
    refine ⟨S.grown k, ⟨⟨_, I.toInCall.ns, fun x v ok e q => ?_⟩, fun n c e => ⟨_, I.cell n c e⟩, fun x v ok e q => ?_⟩, ⟨F1.kind, F1.glob, F1.blt, List.nodup_cons.mpr ⟨fun q => ?_, List.pairwise_map.mpr I.apart⟩, hnd, fun a q z => ?_, fun a q => base_none S (hfr a q), fun x q => cells_held _ q⟩⟩
    · obtain ⟨u, hm, x⟩ := e0 x v ok e
      exact ⟨u, bindL_mem q (by rw [List.map_fst_zip (Nat.le_of_eq hnl.symm)]; exact F1.nd) hm, x⟩
    · obtain ⟨u, hm, x'⟩ := e0 x v ok e
      obtain ⟨c, hc⟩ := cells_held (s.heap.objs.size + 1) q
      exact ⟨c, u, hc, bindC_mem (k := (callEnvC fd s.heap.objs.size (D.fa f)).kindOf) (m := fun _ => none) q (by rw [List.map_fst_zip (Nat.le_of_eq hnl.symm)]; exact F1.nd) hm ▸ I.cell x c hc, x'⟩
    · obtain ⟨⟨n, c⟩, hm, hc⟩ := List.mem_map.mp q
      exact Nat.lt_irrefl _ (hc ▸ I.above n c hm)
    · have := S.live a z
      rw [hfr a q] at this
      cases this
  refine x_stmts (s := ⟨h1, s.gens, s.drawn, k1, s.os⟩) hs (m := 40) (ms := F.body) F1.tr e2 ⟨hh, ?_, ?_⟩ St1 fun adr' h' t fl T' S' x' => ?_
  · show A.depth + 1 + 4 * d + 4 < _
    omega
  · show A.units + 3 + 16 * d + 100 < _
    omega
  · obtain ⟨q1, x2⟩ := krF_ok (D := D) (adr := adr') (h := h') e
    rw [q1] at S'
    exact PQ h1 _ ρ1 adr' h' t _ k hfr T' S' (x2 x')
theorem fn_call (C : Cx prog w K B D P) (hs : SS prog w B D E d) {f : Nat} {as : List MV} {us : List Value} {v : MV} {Q : Value → Shared → Prop} (e : callF P E f as H = some (v, H')) (hd : A.depth + 4 * d + 6 < recursionLimit) (hu : A.units + 16 * d + 110 < cLine) (hh : A.handled = none)
    (S : St prog w B D adr H ρ env s.heap) (xs : VRs D adr s.heap as us) (PQ : Po prog w B D adr env s H' ρ (fun adr' h' u => VR D adr' h' v u) Q) : codeAny (model prog w) A (.call (.ref (D.fa f)) ⟨us, []⟩) (wants Q Er) s :=
  fn_core C hs e hd hu hh S.sr xs fun h1 env' ρ1 adr' h' t u k hz T' S' x => PQ adr' h' t u (S.left k hz T' S').1 (S.left k hz T' S').2 x
end
end Mn
end
section
set_option maxRecDepth 100000
namespace Mn
open PySem PySem.W PyProof.Rows PySem.Calls SeqAt
theorem under_depth (A : Around) (C : Addr) (vals : List Value) : (A.under (.builtin "type.__call__" ⟨.ref C :: vals, []⟩)).depth = A.depth + 1 := depth_under_kw A C vals []
theorem under_units (A : Around) (C : Addr) (vals : List Value) : (A.under (.builtin "type.__call__" ⟨.ref C :: vals, []⟩)).units ≤ A.units + 4 := by
  show A.units + (Code.builtin "type.__call__" ⟨.ref C :: vals, []⟩).cUnits ≤ _
  exact Nat.add_le_add_left (Nat.le_of_ble_eq_true (by kernel_rfl)) _
section
variable {prog : Program} {w : World} {K : Frag} {B : Heap} {D : Ad} {P : Pg}
variable {E : Ev} {d : Nat} {A : Around} {Er : Value → Shared → Prop} {s : Shared} {adr : List Addr} {H H' : MH} {env : Env} {ρ ρ' : Loc}
theorem callF_zero {f : Nat} {as : List MV} : callF P Ev.zero f as H = none := by
  unfold callF
  cases P.fns f with
  | none => rfl
  | some F =>
    show (if _ then _ else _) = _
    split
    · rename_i h
      cases hb : F.body with
      | nil => rw [hb] at h; cases h.2
      | cons x r => rfl
    · rfl
inductive Dp (prog : Program) (w : World) (B : Heap) (D : Ad) : Ev → Nat → Prop
  | zero (d : Nat) : Dp prog w B D Ev.zero d
  | succ {E : Ev} {d : Nat} (h : SS prog w B D E d) : Dp prog w B D E (d + 1)
theorem dp_call (C : Cx prog w K B D P) (hs : Dp prog w B D E d) {f : Nat} {as : List MV} {us : List Value} {v : MV} {Q : Value → Shared → Prop} (e : callF P E f as H = some (v, H')) (hd : A.depth + 4 * d + 2 < recursionLimit) (hu : A.units + 16 * d + 94 < cLine) (hh : A.handled = none)
    (S : St prog w B D adr H ρ env s.heap) (xs : VRs D adr s.heap as us) (PQ : Po prog w B D adr env s H' ρ (fun adr' h' u => VR D adr' h' v u) Q) : codeAny (model prog w) A (.call (.ref (D.fa f)) ⟨us, []⟩) (wants Q Er) s := by
  cases hs with
  | zero d => rw [callF_zero] at e; cases e
  | succ h => exact fn_call C h e (by omega) (by omega) hh S xs PQ
theorem kin_ok {k : Nat} {r v : MV} {H1 : MH} (e : kin k (r, H1) = some (v, H')) : r = .none ∧ some (MV.ref k, H1) = some (v, H') := by
  cases r with
  | none => exact ⟨rfl, e⟩
  | _ => cases e
theorem make_ok (C : Cx prog w K B D P) {E' : Ev} (hs : Dp prog w B D E' d) {c f : Nat} {as : List MV} {us : List Value} {v : MV} {Q : Value → Shared → Prop} (e1 : P.meth c (cd "__init__") = some f)
    (e : (callF P E' f (.ref (H.next + 1) :: as) ((H.new (.dict [])).new (.inst c H.next))).bind (kin (H.next + 1)) = some (v, H')) (R : Room A d) (S : St prog w B D adr H ρ env s.heap) (xs : VRs D adr s.heap as us) (PQ : Po prog w B D adr env s H' ρ (fun adr' h' u => VR D adr' h' v u) Q) :
    wpAny (model prog w) A (call (.ref (D.ca c)) us) Q Er s := by
  refine bnd2 e fun r H1 e2 e => ?_
  obtain ⟨rfl, e⟩ := kin_ok e
  have Cl := C.cls c (.inr ⟨_, f, e1⟩)
  have X := C.X.keeps S.sr.base
  obtain ⟨m1, m2, _⟩ := Cl.meth (Str.ofString "__init__") f (okS_of (by decide +kernel)) (by rw [show code (Str.ofString "__init__") = cd "__init__" by decide +kernel]; exact e1)
  obtain ⟨h, g, dr, t, os⟩ := s
  refine wpAny_call (make_core (makes_of X Cl.makes) (looks_findIn X m1) (fun self => bind_fn X self m2) (.inl rfl) ?_)
  have S1 : St prog w B D (adr ++ [h.objs.size]) (H.new (.dict [])) ρ env (h.push emptyDict) := S.made keep_push none_size (.dictS [] _ [] (Heap.DictOf.new h) .nil (off_le S.sr (Nat.le_refl _)))
  have hz : (h.push emptyDict).objs.size = h.objs.size + 1 := Heap.size_push ..
  have hn : (h.push emptyDict).get? (h.objs.size + 1) = none := Heap.get?_none_of_le (Nat.le_of_eq hz)
  have hx : ((h.push emptyDict).push (instObj (D.ca c) h.objs.size)).get? (h.objs.size + 1) = some (instObj (D.ca c) h.objs.size) := hz ▸ Heap.get?_push_size (h.push emptyDict) (o := instObj (D.ca c) h.objs.size) rfl
  have hlen := S.sr.len
  have i0 : (adr ++ [h.objs.size] ++ [h.objs.size + 1])[H.next]? = some h.objs.size := by rw [← hlen]; simp
  have i1 : (adr ++ [h.objs.size] ++ [h.objs.size + 1])[H.next + 1]? = some (h.objs.size + 1) := by rw [← hlen, List.getElem?_append_right (by simp)]; simp
  have S2 : St prog w B D (adr ++ [h.objs.size] ++ [h.objs.size + 1]) ((H.new (.dict [])).new (.inst c H.next)) ρ env ((h.push emptyDict).push (instObj (D.ca c) h.objs.size)) :=
    S1.made keep_push hn (.inst c H.next _ h.objs.size i0 hx)
  have T2 : Tn adr env h (adr ++ [h.objs.size] ++ [h.objs.size + 1]) ((h.push emptyDict).push (instObj (D.ca c) h.objs.size)) := (Tn.made keep_push none_size).trans (Tn.made keep_push hn)
  have xk : VR D (adr ++ [h.objs.size] ++ [h.objs.size + 1]) ((h.push emptyDict).push (instObj (D.ca c) h.objs.size)) (.ref (H.next + 1)) (.ref (h.objs.size + 1)) := .ref _ _ i1
  have hu := under_units A (D.ca c) us
  have hd := under_depth A (D.ca c) us
  have hR1 := R.depth
  have hR2 := R.units
  refine codeAny_mono (dp_call (s := ⟨(h.push emptyDict).push (instObj (D.ca c) h.objs.size), g, dr, t, os⟩) (Q := fun u s' => u = .none ∧ Q (.ref (h.objs.size + 1)) s') (Er := Er) C hs e2 (by omega) (by omega) R.hh S2 (.cons xk (S.vts T2 xs)) fun adr' h' t' u T' S' x' => ?_) fun r s' z => ?_
  · exact ⟨x'.inv, PQ.of e adr' h' t' _ (T2.trans T') S' (S2.vt T' xk)⟩
  · rcases r with r | (r | r | r | r) <;> first | exact z | exact z.elim
theorem sc_step {E' : Unit → Ev} (C : Cx prog w K B D P) (hs : Dp prog w B D (E' ()) d) : SC prog w B D (Ev.step P E E') d := by
  intro A Er s adr H H' env ρ f v as uf us Q e R S xf xs PQ
  have hR1 := R.depth
  have hR2 := R.units
  cases f with
  | fn f =>
    rw [show uf = _ from xf.inv]
    exact wpAny_call (dp_call C hs e (by omega) (by omega) R.hh S xs PQ)
  | bm k f =>
    obtain ⟨x, a, rfl, e1, hm⟩ := xf.inv
    exact wpAny_call (method_call hm (dp_call C hs e (by omega) (by omega) R.hh S (.cons (.ref k x e1) xs) PQ))
  | bi b =>
    rw [show uf = _ from xf.inv]
    exact callB_ok S R.hh e xs PQ
  | cls c =>
    rw [show uf = _ from xf.inv]
    exact bnd e fun f e1 e => make_ok C hs e1 e R S xs PQ
  | _ => cases e
theorem any_star {m : Nat} {pos : Pos} {sc : Scope} {es : List PySem.Expr} : ∀ {ms : List MX}, all? (trE m sc) es = some ms → ((backTo pos (starEach es env)).any (·.1)) = false ∧ (backTo pos (starEach es env)).all (fun x => !x.1) = true := by
  induction es with
  | nil => intro ms _; exact ⟨rfl, rfl⟩
  | cons x es ih =>
    intro ms tr
    obtain ⟨a, as, t1, t2, _⟩ := all_inv tr
    rw [star_ok t1]
    exact ih t2
theorem x_args (hx : SX prog w B D E d) {m : Nat} {pos : Pos} {f : Value} {es : List PySem.Expr} {ms : List MX} {vs : List MV} {Q : Args → Shared → Prop} (tr : all? (trE m env.scope) es = some ms) (e : evs E ms ρ H = some (vs, H')) (R : Room A d)
    (S : St prog w B D adr H ρ env s.heap) (PQ : Po prog w B D adr env s H' ρ (fun adr' h' us => VRs D adr' h' vs us) fun us s' => Q ⟨us, []⟩ s') : wpAny (model prog w) A (evalArgs f true (backTo pos (starEach es env)) []) Q Er s := by
  cases es with
  | nil =>
    obtain rfl := all_nil tr
    have q := Option.some.inj e
    obtain rfl : H' = H := (congrArg Prod.snd q).symm
    obtain rfl : vs = [] := (congrArg Prod.fst q).symm
    exact evalArgs_nil3 (PQ.here S .nil s.toks)
  | cons x es =>
    obtain ⟨a, as, t1, _, _⟩ := all_inv tr
    have h := x_evs (pos := pos) (Q := fun us s' => Q ⟨us, []⟩ s') (Er := Er) hx tr e R S PQ
    rw [star_ok t1] at h ⊢
    exact evalArgs_plain h
noncomputable def KpAt (M : Model) (h : Heap) (u : Value) : Prop := ∃ k, (k = Keeper.frame ∨ k = Keeper.machine ∨ k = Keeper.boundFrame) ∧ Looks M h (keeperOf u) k
theorem keeper_ok (C : Cx prog w K B D P) {M : Model} {h : Heap} (X : K.In h) {f : MV} {uf : Value} (x : VR D adr h f uf) (hf : okFn P f = true) : KpAt M h uf := by
  replace x := x.inv
  cases f with
  | fn f => rw [show uf = _ from x]; exact keeps_K (C.fnf f hf).1 h X
  | cls c =>
    obtain ⟨f, hf⟩ := Option.isSome_iff_exists.mp hf
    rw [show uf = _ from x]
    exact keeps_K (C.cls c (.inr ⟨_, f, hf⟩)).keep h X
  | bm k f =>
    obtain ⟨x, a, rfl, e, hm⟩ := x
    exact keeps_M (self := .ref x) (C.fnf f hf).2 h ⟨hm, X⟩
  | bi b =>
    rw [show uf = _ from x]
    refine ⟨.machine, .inr (.inl rfl), ?_⟩
    cases b <;> exact Looks.of_pure rfl
  | _ => cases hf
theorem x_with (C : Cx prog w K B D P) (hx : SX prog w B D E d) (hc : SC prog w B D E d) {m : Nat} {es : List PySem.Expr} {pos : Pos} {f : MV} {uf : Value} {ms : List MX} {v : MV} {Q : Value → Shared → Prop} {fs : List MV} {ufs : List Value} (t2 : all? (trE m env.scope) es = some ms)
    (e : ((evs E ms ρ H).bind fun v => E.c f (fs ++ v.1) v.2) = some (v, H')) (hf : okFn P f = true) (R : Room A d) (S : St prog w B D adr H ρ env s.heap) (xf : VR D adr s.heap f uf) (xs : VRs D adr s.heap fs ufs) (PQ : Po prog w B D adr env s H' ρ (fun adr' h' u => VR D adr' h' v u) Q) :
    wpAny (model prog w) A (callWith pos uf ufs (backTo pos (starEach es env)) []) Q Er s :=
  bnd2 e fun vs H2 e2 e => callWith_of (P := fun h => KpAt (model prog w) h uf) (by rw [(any_star t2).1]; rfl) (fun _ x => x) (x_args hx t2 e2 R S fun adr2 h2 k2 us T2 S2 x2 =>
    ⟨keeper_ok (adr := adr2) C (C.X.keeps S2.sr.base) (S.vt T2 xf) hf, hc A Er ⟨h2, s.gens, s.drawn, k2, s.os⟩ adr2 H2 H' env ρ f v (fs ++ vs) uf (ufs ++ us) Q e R S2 (S.vt T2 xf) ((S.vts T2 xs).append x2) (PQ.after T2 k2)⟩)
theorem call_eq {f : PySem.Expr} (h : isAttr f = false) (as : List PySem.Expr) (pos : Pos) : eval (.Call f as [] pos) env = (do callWith pos (← eval f env) [] (backTo pos (starEach as env)) (backToKw pos (keywordEach [] env))) := by
  cases f with
  | Attribute => cases h
  | _ => rfl
theorem x_call (C : Cx prog w K B D P) (hx : SX prog w B D E d) (hc : SC prog w B D E d) {m : Nat} {f : PySem.Expr} {es : List PySem.Expr} {pos : Pos} {a : MX} {ms : List MX} {v : MV} {Q : Value → Shared → Prop} (hA : isAttr f = false) (t1 : trE m env.scope f = some a) (t2 : all? (trE m env.scope) es = some ms)
    (e : ((E.x a ρ H).bind fun u => if okFn P u.1 = true then (evs E ms ρ u.2).bind fun v => E.c u.1 v.1 v.2 else none) = some (v, H')) (R : Room A d) (S : St prog w B D adr H ρ env s.heap) (PQ : Po prog w B D adr env s H' ρ (fun adr' h' u => VR D adr' h' v u) Q) :
    wpAny (model prog w) A (eval (.Call f es [] pos) env) Q Er s := by
  rw [call_eq hA]
  exact bnd2 e fun vf H1 e1 e => gd e fun hf e => wpAny_bind (hx m f a A Er s adr H H1 env ρ vf _ t1 e1 R S fun adr1 h1 k1 u1 T1 S1 x1 =>
    x_with (fs := []) (s := ⟨h1, s.gens, s.drawn, k1, s.os⟩) C hx hc t2 e hf R S1 x1 .nil (PQ.after T1 k1))
end
end Mn
end
section
set_option maxRecDepth 100000
namespace Mn
open PySem PySem.W PyProof.Rows PySem.Calls SeqAt
section
variable {prog : Program} {w : World} {K : Frag} {B : Heap} {D : Ad} {P : Pg}
variable {E : Ev} {d : Nat} {A : Around} {Er : Value → Shared → Prop} {s : Shared} {adr : List Addr} {H H' : MH} {env : Env} {ρ ρ' : Loc}
theorem mth_eq {o : PySem.Expr} {z : Str} {ap pos : Pos} {es : List PySem.Expr} (h : isCall o = false) (hl : (ap.endLine == pos.line) = true) (hn : es.length < 30) {m : Nat} {sc : Scope} {ms : List MX} (tr : all? (trE m sc) es = some ms) :
    ∃ pl : Sem Bool, eval (.Call (.Attribute o z ap) es [] pos) env = (do
      let ov ← eval o env
      standAt ap.atName
      let (f, first) ← holding [ov] (getMethod ov z pl)
      callWith pos f first (backTo pos (starEach es env)) []) := by
  refine ⟨do return (← importBound o env).getD true, ?_⟩
  rw [arm_eval_Call, base_eq h]
  have q : methodCallForm (es.length + ([] : List Keyword).length) (backTo pos (starEach es env)) (backToKw pos (keywordEach [] env)) = true := by
    unfold methodCallForm
    rw [(any_star (env := env) tr).2]
    exact decide_eq_true hn
  congr 1
  funext ov
  unfold methodCall
  rw [q]
  unfold calleeOf methodCallPos
  simp only [if_true, hl, Bool.or_true]
  rfl
theorem x_mth (C : Cx prog w K B D P) (hx : SX prog w B D E d) (hc : SC prog w B D E d) {m : Nat} {o : PySem.Expr} {z : Str} {ap pos : Pos} {es : List PySem.Expr} {a : MX} {ms : List MX} {v : MV} {Q : Value → Shared → Prop} (hz : okS z) (hC : isCall o = false)
    (hl : (ap.endLine == pos.line) = true) (hn : es.length < 30) (t1 : trE m env.scope o = some a) (t2 : all? (trE m env.scope) es = some ms)
    (e : ((E.x a ρ H).bind fun u => (asRef u.1).bind fun k => (u.2.get k).bind (kmo P E (code z) ms ρ k u.2)) = some (v, H')) (R : Room A d) (S : St prog w B D adr H ρ env s.heap) (PQ : Po prog w B D adr env s H' ρ (fun adr' h' u => VR D adr' h' v u) Q) :
    wpAny (model prog w) A (eval (.Call (.Attribute o z ap) es [] pos) env) Q Er s := by
  refine bnd2 e fun vo H1 e1 e => bnd e fun k e2 e => bnd e fun ob e3 e => ?_
  obtain ⟨pl, he⟩ := mth_eq (env := env) (z := z) hC hl hn t2
  rw [he]
  refine wpAny_bind (hx m o a A Er s adr H H1 env ρ vo _ t1 e1 R S fun adr1 h1 k1 u1 T1 S1 x1 => wpAny_bind (wpAny_standAt (wpAny_bind (wpAny_holding ?_))))
  replace x1 : VR D adr1 h1 (.ref k) u1 := (show vo = .ref k from asRef_inv e2) ▸ x1
  have PQ1 := PQ.after T1 k1
  clear PQ
  cases ob with
  | inst c dd =>
    refine bnd e fun q e4 e => gd e fun hk e => bnd e fun f e5 e => gd e fun hf e => ?_
    obtain ⟨_, e6, e7, e8⟩ := instAt_inv (show instAt H1 (.ref k) = some q from (congrArg (Option.bind · (katd H1)) e3).trans e4)
    obtain rfl : k = _ := congrArg refOf e6
    exact method_ok (s := ⟨h1, s.gens, s.drawn, k1, s.os⟩) (C.X.keeps S1.sr.base) (C.cls q.1 (.inr ⟨_, _, e5⟩)) S1 hz e7 e8 hk.1 e5 hk.2 x1
      (x_with (f := .fn f) (fs := [.ref k]) (s := ⟨h1, s.gens, s.drawn, k1, s.os⟩) C hx hc t2 e hf R S1 (.fn f) (.cons x1 .nil) PQ1)
  | list vs0 =>
    refine bnd2 e fun vs H2 e4 e => bnd e fun ob' e5 e => ?_
    obtain ⟨b, rfl, hb, O⟩ := SR.vref (s := ⟨h1, s.gens, s.drawn, k1, s.os⟩) S1.sr e3 x1
    obtain ⟨ws, hl', _, _⟩ := O.listE
    cases ob' with
    | list vs' =>
      cases callL_inv (show callL H2 k vs' (code z) vs = some (v, H') from e) with
      | append q y hz' e' =>
        obtain rfl := name_of (x := "append") hz q (by decide +kernel) (by decide +kernel)
        exact getMethod_list_of PySem.F.slot_list_append PySem.F.type_list_append hl'.isList (plain_noDict hl') (callWith_builtin (any_star t2).1 (x_args (s := ⟨h1, s.gens, s.drawn, k1, s.os⟩) hx t2 e4 R S1 fun adr2 h2 k2 us T2 S2 x2 =>
          append_ok (s := ⟨h2, s.gens, s.drawn, k2, s.os⟩) S2 e5 (pre_get T2.pre hb) hz' x2 (PX.of e' (PQ1.after T2 k2))))
      | pop q y hz' hg e' =>
        obtain rfl := name_of (x := "pop") hz q (by decide +kernel) (by decide +kernel)
        refine getMethod_list_of PySem.F.slot_list_pop PySem.F.type_list_pop hl'.isList (plain_noDict hl') (callWith_builtin (any_star t2).1 (x_args (s := ⟨h1, s.gens, s.drawn, k1, s.os⟩) hx t2 e4 R S1 fun adr2 h2 k2 us T2 S2 x2 => ?_))
        rw [show us = [] from x2.inv]
        exact pop_ok (s := ⟨h2, s.gens, s.drawn, k2, s.os⟩) S2 e5 (pre_get T2.pre hb) hz' hg (PX.of e' (PQ1.after T2 k2))
    | _ => cases e
  | dict es0 =>
    refine bnd2 e fun vs H2 e4 e => bnd e fun ob' e5 e => ?_
    obtain ⟨b, rfl, hb, O⟩ := SR.vref (s := ⟨h1, s.gens, s.drawn, k1, s.os⟩) S1.sr e3 x1
    cases ob' with
    | dict es' =>
      exact getD_ok (s := ⟨h1, s.gens, s.drawn, k1, s.os⟩) O hz (callD_inv e).1 (callWith_builtin (any_star t2).1 (x_args (s := ⟨h1, s.gens, s.drawn, k1, s.os⟩) hx t2 e4 R S1 fun adr2 h2 k2 us T2 S2 x2 =>
        callD_ok (A := A) (E := Er) (s := ⟨h2, s.gens, s.drawn, k2, s.os⟩) S2 e5 (pre_get T2.pre hb) e x2 (PQ1.after T2 k2)))
    | _ => cases e
  | frz _ => cases e
end
end Mn
end
section
set_option maxRecDepth 100000
namespace Mn
open PySem PySem.W PyProof.Rows PySem.Calls SeqAt
inductive TrI (m : Nat) (sc : Scope) : PySem.Expr → MX → Prop
  | cst {c : Const} {k : Nat} {p : Pos} {v : MV} (t : trC c = some v) : TrI m sc (.Constant c k p) (.cst v)
  | nam {x : Str} {p : Pos} {e : MX} (t : trN sc x = some e) : TrI m sc (.Name x p) e
  | bin {l r : PySem.Expr} {op : Operator} {p : Pos} {a b : MX} {o : Op} (t1 : trE m sc l = some a) (t2 : trOp op = some o) (t3 : trE m sc r = some b) : TrI m sc (.BinOp l op r p) (.bin o a b)
  | neg {x : PySem.Expr} {p : Pos} {a : MX} (t : trE m sc x = some a) : TrI m sc (.UnaryOp .USub x p) (.neg a)
  | not {x : PySem.Expr} {p : Pos} {a : MX} (t : trE m sc x = some a) : TrI m sc (.UnaryOp .Not x p) (.not a)
  | bop {op : BoolOp} {es : List PySem.Expr} {p : Pos} {ms : List MX} (t : all? (trE m sc) es = some ms) : TrI m sc (.BoolOp op es p) (.bop (conj op) ms)
  | cmp {l r : PySem.Expr} {op : CmpOp} {p : Pos} {a b : MX} {o : Co} (t1 : trE m sc l = some a) (t2 : trCo op = some o) (t3 : trE m sc r = some b) : TrI m sc (.Compare l [op] [r] p) (.cmp a o b)
  | cmp2 {l r r' : PySem.Expr} {op op' : CmpOp} {p : Pos} {a b c : MX} {o o' : Co} (t1 : trE m sc l = some a) (t2 : trCo op = some o) (t3 : trE m sc r = some b) (t4 : trCo op' = some o') (t5 : trE m sc r' = some c) : TrI m sc (.Compare l [op, op'] [r, r'] p) (.cmp2 a o b o' c)
  | ife {c a b : PySem.Expr} {p : Pos} {mc ma mb : MX} (t1 : trE m sc c = some mc) (t2 : trE m sc a = some ma) (t3 : trE m sc b = some mb) : TrI m sc (.IfExp c a b p) (.ife mc ma mb)
  | att {x : PySem.Expr} {n : Str} {p : Pos} {a : MX} (g1 : low n = true) (g2 : (!isCall x) = true) (t : trE m sc x = some a) : TrI m sc (.Attribute x n p) (.att a (code n))
  | slc {x : PySem.Expr} {lo hi : Option PySem.Expr} {q p : Pos} {a : MX} {l h : Option MX} (t1 : trE m sc x = some a) (t2 : opt? (trE m sc) lo = some l) (t3 : opt? (trE m sc) hi = some h) : TrI m sc (.Subscript x (.Slice lo hi none q) p) (.slc a l h)
  | sub {x i : PySem.Expr} {p : Pos} {a j : MX} (g : isSlc i = false) (t1 : trE m sc x = some a) (t2 : trE m sc i = some j) : TrI m sc (.Subscript x i p) (.sub a j)
  | mth {o : PySem.Expr} {n : Str} {ap p : Pos} {as : List PySem.Expr} {a : MX} {ms : List MX} (g : (low n && !isCall o && (ap.endLine == p.line) && decide (as.length < 30)) = true) (t1 : trE m sc o = some a) (t2 : all? (trE m sc) as = some ms) : TrI m sc (.Call (.Attribute o n ap) as [] p) (.mth a (code n) ms)
  | call {f : PySem.Expr} {p : Pos} {as : List PySem.Expr} {a : MX} {ms : List MX} (g : isAttr f = false) (t1 : trE m sc f = some a) (t2 : all? (trE m sc) as = some ms) : TrI m sc (.Call f as [] p) (.call a ms)
  | tup {es : List PySem.Expr} {q : Nat} {p : Pos} {ms : List MX} (t : all? (trE m sc) es = some ms) : TrI m sc (.Tuple es q p) (.tup ms)
  | lst {es : List PySem.Expr} {p : Pos} {ms : List MX} (t : all? (trE m sc) es = some ms) : TrI m sc (.List es p) (.lst ms)
  | dct {p : Pos} : TrI m sc (.Dict [] [] p) .dct
  | cmpr {e t it : PySem.Expr} {ifs : List PySem.Expr} {sc' : Scope} {p : Pos} {me mi : MX} {mt : CT} {ms : List MX} (hO : OkComp sc' sc) (t1 : trE m (relab sc' sc) e = some me) (t2 : trCT (relab sc' sc) t = some mt) (t3 : trE m sc it = some mi) (t4 : all? (trE m (relab sc' sc)) ifs = some ms) (hL : OkLoc sc' mt) : TrI m sc (.ListComp e [⟨t, it, ifs, 0⟩] sc' p) (.cmpr me mt mi ms)
theorem TrI.of {m : Nat} {sc : Scope} {x : PySem.Expr} {e e' : MX} (h : some e' = some e) (k : TrI m sc x e') : TrI m sc x e := by rw [← Option.some.inj h]; exact k
theorem trE_inv {m : Nat} {sc : Scope} {ex : PySem.Expr} {e : MX} (tr : trE (m + 1) sc ex = some e) : TrI m sc ex e := by
  cases ex with
  | Constant c k p => exact bnd (f := fun v => some (MX.cst v)) tr fun v t1 tr => .of tr (.cst t1)
  | Name x p => exact .nam tr
  | BinOp l op r p => exact bnd (f := fun a => (trOp op).bind fun o => (trE m sc r).bind fun b => some (MX.bin o a b)) tr fun a t1 tr => bnd tr fun o t2 tr => bnd tr fun b t3 tr => .of tr (.bin t1 t2 t3)
  | UnaryOp op x p =>
    cases op with
    | USub => exact bnd (f := fun a => some (MX.neg a)) tr fun a t1 tr => .of tr (.neg t1)
    | Not => exact bnd (f := fun a => some (MX.not a)) tr fun a t1 tr => .of tr (.not t1)
    | _ => cases tr
  | BoolOp op es p => exact bnd (f := fun es => some (MX.bop (conj op) es)) tr fun ms t1 tr => .of tr (.bop t1)
  | Compare l ops rs p =>
    rcases ops with _ | ⟨op, _ | ⟨op', _ | ⟨op'', ops⟩⟩⟩
    · cases tr
    · rcases rs with _ | ⟨r, _ | ⟨r', rs⟩⟩
      · cases tr
      · exact bnd (f := fun a => (trCo op).bind fun o => (trE m sc r).bind fun b => some (MX.cmp a o b)) tr fun a t1 tr => bnd tr fun o t2 tr => bnd tr fun b t3 tr => .of tr (.cmp t1 t2 t3)
      · cases tr
    · rcases rs with _ | ⟨r, _ | ⟨r', _ | ⟨r'', rs⟩⟩⟩
      · cases tr
      · cases tr
      · exact bnd (f := fun a => (trCo op).bind fun o => (trE m sc r).bind fun b => (trCo op').bind fun o' => (trE m sc r').bind fun c => some (MX.cmp2 a o b o' c)) tr fun a t1 tr => bnd tr fun o t2 tr => bnd tr fun b t3 tr => bnd tr fun o' t4 tr => bnd tr fun c t5 tr => .of tr (.cmp2 t1 t2 t3 t4 t5)
      · cases tr
    · cases tr
  | IfExp c a b p => exact bnd (f := fun c => (trE m sc a).bind fun a => (trE m sc b).bind fun b => some (MX.ife c a b)) tr fun x t1 tr => bnd tr fun y t2 tr => bnd tr fun z t3 tr => .of tr (.ife t1 t2 t3)
  | Attribute x n p => exact gd (o := (trE m sc x).bind fun a => some (MX.att a (code n))) tr fun g tr => bnd tr fun a t1 tr => .of tr (.att (Bool.and_eq_true_iff.mp g).1 (Bool.and_eq_true_iff.mp g).2 t1)
  | Subscript x i p =>
    cases hz : isSlc i with
    | false =>
      have tr : ((trE m sc x).bind fun a => (trE m sc i).bind fun i => some (MX.sub a i)) = some e := by
        cases i with
        | Slice => cases hz
        | _ => exact tr
      exact bnd tr fun a t1 tr => bnd tr fun j t2 tr => .of tr (.sub hz t1 t2)
    | true =>
      cases i with
      | Slice lo hi st q =>
        cases st with
        | none => exact bnd (f := fun a => (opt? (trE m sc) lo).bind fun lo => (opt? (trE m sc) hi).bind fun hi => some (MX.slc a lo hi)) tr fun a t1 tr => bnd tr fun l t2 tr => bnd tr fun h t3 tr => .of tr (.slc t1 t2 t3)
        | some st => exact bnd (f := fun a => (trE m sc (.Slice lo hi (some st) q)).bind fun i => some (MX.sub a i)) tr fun a t1 tr => bnd tr fun j t2 tr => by cases m <;> cases t2
      | _ => cases hz
  | Call f as kws p =>
    cases kws with
    | cons k ks => cases f <;> cases tr
    | nil =>
      cases hf : isAttr f with
      | false =>
        have tr : ((trE m sc f).bind fun f => (all? (trE m sc) as).bind fun as => some (MX.call f as)) = some e := by
          cases f with
          | Attribute => cases hf
          | _ => exact tr
        exact bnd tr fun a t1 tr => bnd tr fun ms t2 tr => .of tr (.call hf t1 t2)
      | true =>
        cases f with
        | Attribute o n ap => exact gd (o := (trE m sc o).bind fun o => (all? (trE m sc) as).bind fun as => some (MX.mth o (code n) as)) tr fun g tr => bnd tr fun a t1 tr => bnd tr fun ms t2 tr => .of tr (.mth g t1 t2)
        | _ => cases hf
  | Tuple es q p => exact bnd (f := fun es => some (MX.tup es)) tr fun ms t1 tr => .of tr (.tup t1)
  | List es p => exact bnd (f := fun es => some (MX.lst es)) tr fun ms t1 tr => .of tr (.lst t1)
  | Dict ks vs p =>
    rcases ks with _ | ⟨k, ks⟩
    · rcases vs with _ | ⟨v, vs⟩
      · exact .of tr .dct
      · cases tr
    · cases tr
  | ListComp e gens sc' p =>
    rcases gens with _ | ⟨⟨t, it, ifs, na⟩, _ | ⟨g, gens⟩⟩
    · cases tr
    · refine gd (o := (trE m (relab sc' sc) e).bind fun e => (trCT (relab sc' sc) t).bind fun t => (trE m sc it).bind fun it => (all? (trE m (relab sc' sc)) ifs).bind fun ifs => if OkLoc sc' t then some (MX.cmpr e t it ifs) else none) tr fun hO tr => bnd tr fun a t1 tr => bnd tr fun b t2 tr => bnd tr fun c t3 tr => bnd tr fun ms t4 tr => gd tr fun hL tr9 => ?_
      obtain ⟨rfl, hO⟩ := hO
      exact .of tr9 (.cmpr hO t1 t2 t3 t4 hL)
    · cases tr
  | _ => cases tr
end Mn
end
section
set_option maxRecDepth 100000
namespace Mn
open PySem PySem.W PyProof.Rows PySem.Calls SeqAt
section
variable {prog : Program} {w : World} {K : Frag} {B : Heap} {D : Ad} {P : Pg}
variable {E : Ev} {d : Nat} {A : Around} {Er : Value → Shared → Prop} {s : Shared} {adr : List Addr} {H H' : MH} {env : Env} {ρ ρ' : Loc}
theorem not_tt {b : Bool} (h : (!b) = true) : b = false := by cases b with | false => rfl | true => cases h
variable (prog w B D P) in
noncomputable def SKo (E : Ev) (d : Nat) : Prop := ∀ (m : Nat) (e t it : PySem.Expr) (ifs : List PySem.Expr) (sc' : Scope) (p : Pos) (me mi : MX) (mt : CT) (ms : List MX) (A : Around) (Er : Value → Shared → Prop) (s : Shared) (adr : List Addr) (H H' : MH) (env : Env) (ρ : Loc) (v : MV) (Q : Value → Shared → Prop),
  OkComp sc' env.scope → trE m (relab sc' env.scope) e = some me → trCT (relab sc' env.scope) t = some mt → trE m env.scope it = some mi → all? (trE m (relab sc' env.scope)) ifs = some ms → OkLoc sc' mt → evC P E me mt mi ms ρ H = some (v, H') → Room A d → St prog w B D adr H ρ env s.heap →
    Po prog w B D adr env s H' ρ (fun adr' h' u => VR D adr' h' v u) Q → wpAny (model prog w) A (eval (.ListComp e [⟨t, it, ifs, 0⟩] sc' p) env) Q Er s
theorem sx_step {E' : Unit → Ev} (C : Cx prog w K B D P) (hx : SX prog w B D E d) (ht : ST prog w B D E d) (hc : SC prog w B D E d) (hk : SKo prog w B D P E d) : SX prog w B D (Ev.step P E E') d := by
  intro m ex e A Er s adr H H' env ρ v Q tr ev R S PQ
  cases m with
  | zero => cases tr
  | succ m =>
  cases trE_inv tr with
  | cst t => exact x_cst t S (PQ.of ev)
  | nam t =>
    obtain ⟨h1, h2, ⟨q, rfl⟩ | ⟨q, rfl⟩⟩ := trN_inv t
    · exact bnd (f := fun v => some (v, H)) ev fun v' e1 e2 => x_loc h1 h2 q e1 S (PQ.of e2)
    · exact bnd (f := fun v => some (v, H)) ev fun v' e1 e2 => x_glb C h1 h2 q e1 S (PQ.of e2)
  | bin t1 t2 t3 => exact x_bin hx t1 t2 t3 ev R S PQ
  | neg t1 => exact x_neg hx t1 ev R S PQ
  | not t1 => exact x_not hx t1 ev R S PQ
  | bop t1 =>
    rw [arm_eval_BoolOp]
    exact x_bops hx t1 ev R S PQ
  | cmp t1 t2 t3 => exact x_cmp hx t1 t2 t3 ev R S PQ
  | cmp2 t1 t2 t3 t4 t5 => exact x_cmp2 hx t1 t2 t3 t4 t5 ev R S PQ
  | ife t1 t2 t3 => exact x_ife hx ht t1 t2 t3 ev R S PQ
  | att g1 g2 t1 => exact x_att C hx (low_ok g1) (not_tt g2) t1 ev R S PQ
  | slc t1 t2 t3 => exact x_slc hx t1 t2 t3 ev R S PQ
  | sub _ t1 t2 => exact x_sub hx t1 t2 ev R S PQ
  | mth hg t1 t2 =>
    rw [Bool.and_eq_true, Bool.and_eq_true, Bool.and_eq_true] at hg
    exact x_mth C hx hc (low_ok hg.1.1.1) (not_tt hg.1.1.2) hg.1.2 (of_decide_eq_true hg.2) t1 t2 ev R S PQ
  | call hg t1 t2 => exact x_call C hx hc hg t1 t2 ev R S PQ
  | tup t1 => exact x_tup hx t1 ev R S PQ
  | lst t1 => exact x_lst hx t1 ev R S PQ
  | dct => exact x_dct S (PQ.of ev)
  | cmpr hO t1 t2 t3 t4 hL => exact hk m _ _ _ _ _ _ _ _ _ _ A Er s adr H H' env ρ v Q hO t1 t2 t3 t4 hL ev R S PQ
theorem x_tops (ht : ST prog w B D E d) {m : Nat} {op : BoolOp} {es : List PySem.Expr} : ∀ {ms : List MX} {s : Shared} {adr : List Addr} {H : MH} {b : Bool} {Q : Bool → Shared → Prop}, all? (trE m env.scope) es = some ms → tops E (conj op) ms ρ H = some (b, H') → Room A d →
    St prog w B D adr H ρ env s.heap → Po prog w B D adr env s H' ρ (fun _ _ c => c = b) Q → wpAny (model prog w) A (allTrue op es env) Q Er s := by
  induction es with
  | nil =>
    intro ms s adr H b Q tr e R S PQ
    obtain rfl := all_nil tr
    cases op with
    | And => exact wpAny_allTrue_And_nil ((PQ.ofT e).here S rfl s.toks)
    | Or => exact wpAny_allTrue_Or_nil ((PQ.ofT e).here S rfl s.toks)
  | cons x es ih =>
    intro ms s adr H b Q tr e R S PQ
    obtain ⟨a, as, t1, t2, rfl⟩ := all_inv tr
    refine bnd2 e fun c H1 e1 e => ?_
    have go : wpAny (model prog w) A (do
        match op, ← isTrue x env (eval x env) with
        | .And, false => pure false
        | .Or, true => pure true
        | _, _ => allTrue op es env) Q Er s := by
      refine wpAny_bind (ht m x a A Er s adr H H1 env ρ c _ t1 e1 R S fun adr1 h1 k1 u1 T1 S1 x1 => ?_)
      rw [show u1 = c from x1]
      have next : ∀ b', b' = conj op → (if b' = conj op then tops E (conj op) as ρ H1 else some (b', H1)) = some (b, H') → wpAny (model prog w) A (allTrue op es env) Q Er ⟨h1, s.gens, s.drawn, k1, s.os⟩ :=
        fun b' q e => ih (s := ⟨h1, s.gens, s.drawn, k1, s.os⟩) (Q := Q) t2 (by rw [if_pos q] at e; exact e) R S1 (PQ.after T1 k1)
      have last : ∀ b', b' ≠ conj op → (if b' = conj op then tops E (conj op) as ρ H1 else some (b', H1)) = some (b, H') → wpAny (model prog w) A (pure b') Q Er ⟨h1, s.gens, s.drawn, k1, s.os⟩ :=
        fun b' q e => wpAny_pure (((PQ.ofT (by rw [if_neg q] at e; exact e)).after T1 k1).here S1 rfl k1)
      cases op with
      | And => cases c with
        | true => exact next true rfl e
        | false => exact last false Bool.false_ne_true e
      | Or => cases c with
        | true => exact last true Bool.false_ne_true.symm e
        | false => exact next false rfl e
    exact go
theorem t_value {E' : Unit → Ev} (hx : SX prog w B D E d) {m : Nat} {ex : PySem.Expr} {e : MX} {b : Bool} {Q : Bool → Shared → Prop} (tr : trE m env.scope ex = some e) (hT : isTrue ex env (eval ex env) = (do let v ← eval ex env; standAt ex.pos; holding [v] (truthy v)))
    (ev : ((E.x e ρ H).bind fun u => (truth u.1 u.2).bind fun b => some (b, u.2)) = some (b, H')) (R : Room A d) (S : St prog w B D adr H ρ env s.heap) (PQ : Po prog w B D adr env s H' ρ (fun _ _ c => c = b) Q) :
    wpAny (model prog w) A (isTrue ex env (eval ex env)) Q Er s := by
  rw [hT]
  exact bnd2 ev fun v H1 e1 ev => bnd ev fun c e2 ev => wpAny_bind (hx m ex e A Er s adr H H1 env ρ v _ tr e1 R S fun adr1 h1 k1 u1 T1 S1 x1 =>
    wpAny_bind (wpAny_standAt (wpAny_holding (truth_ok e2 x1 (((PQ.ofT ev).after T1 k1).here S1 rfl k1)))))
theorem t_cmp2 (hx : SX prog w B D E d) {m : Nat} {l r r' : PySem.Expr} {op op' : CmpOp} {pos : Pos} {a b c : MX} {o o' : Co} {v : Bool} {Q : Bool → Shared → Prop} (t1 : trE m env.scope l = some a) (t2 : trCo op = some o) (t3 : trE m env.scope r = some b)
    (t4 : trCo op' = some o') (t5 : trE m env.scope r' = some c)
    (e : ((E.x a ρ H).bind fun u => (E.x b ρ u.2).bind fun v => (compare o u.1 v.1 v.2).bind fun r => match r with
      | true => (E.x c ρ v.2).bind fun w => (compare o' v.1 w.1 w.2).bind fun r' => some (r', w.2)
      | false => some (false, v.2)) = some (v, H')) (R : Room A d) (S : St prog w B D adr H ρ env s.heap) (PQ : Po prog w B D adr env s H' ρ (fun _ _ c => c = v) Q) :
    wpAny (model prog w) A (isTrue (.Compare l [op, op'] [r, r'] pos) env (eval (.Compare l [op, op'] [r, r'] pos) env)) Q Er s := by
  refine bnd2 e fun va H1 e1 e => bnd2 e fun vb H2 e2 e => bnd e fun g e3 e => ?_
  have hu : A.units + 12 < cLine := by have := R.units; omega
  refine isTrue_chain (hx m l a A Er s adr H H1 env ρ va _ t1 e1 R S fun adr1 h1 k1 u1 T1 S1 x1 => ?_) (by simp [lastMarks, marks_ok t5 op'])
  refine test_link (hx m r b A Er ⟨h1, s.gens, s.drawn, k1, s.os⟩ adr1 H1 H2 env ρ vb _ t3 e2 R S1 fun adr2 h2 k2 u2 T2 S2 x2 => ?_)
  refine compare_ok (s := ⟨h2, s.gens, s.drawn, k2, s.os⟩) e3 t2 S2.sr (S1.vt T2 x1) x2 hu fun t => wpAny_truthy_bool ?_
  cases g with
  | false => exact ((PQ.ofT e).after (T1.trans T2) k2).here S2 rfl t
  | true =>
    exact bnd2 e fun vc H3 e4 e => bnd e fun g' e5 e => test_last (hx m r' c A Er ⟨h2, s.gens, s.drawn, t, s.os⟩ adr2 H2 H3 env ρ vc _ t5 e4 R S2 fun adr3 h3 k3 u3 T3 S3 x3 =>
      compare_ok (s := ⟨h3, s.gens, s.drawn, k3, s.os⟩) e5 t4 S3.sr (S2.vt T3 x2) x3 hu fun t => wpAny_truthy_bool (((PQ.ofT e).after ((T1.trans T2).trans T3) k3).here S3 rfl t))
theorem st_step {E' : Unit → Ev} (hx : SX prog w B D E d) (ht : ST prog w B D E d) : ST prog w B D (Ev.step P E E') d := by
  intro m ex e A Er s adr H H' env ρ b Q tr ev R S PQ
  have tr0 := tr
  cases m with
  | zero => cases tr
  | succ m =>
  cases trE_inv tr with
  | nam t =>
    obtain ⟨h1, h2, ⟨q, rfl⟩ | ⟨q, rfl⟩⟩ := trN_inv t
    · exact t_value (E' := E') hx tr0 rfl ev R S PQ
    · exact t_value (E' := E') hx tr0 rfl ev R S PQ
  | @not _ _ a t1 =>
    exact bnd2 (f := fun u => some (!u.1, u.2)) ev fun c H1 e1 ev => wpAny_isTrue_Not (ht m _ a A Er s adr H H1 env ρ c _ t1 e1 R S fun adr1 h1 k1 u1 T1 S1 x1 => (PQ.ofT ev) adr1 h1 k1 _ T1 S1 (by rw [show u1 = c from x1]))
  | bop t1 => exact wpAny_isTrue_BoolOp (x_tops ht t1 ev R S PQ)
  | @cmp l r op p a c o t1 t2 t3 =>
    exact bnd2 (f := fun u => (E.x c ρ u.2).bind fun v => (compare o u.1 v.1 v.2).bind fun r => some (r, v.2)) ev fun va H1 e1 ev => bnd2 ev fun vb H2 e2 ev => bnd ev fun g e3 ev =>
      wpAny_isTrue_Compare1 (cmp_pair hx t1 t2 t3 e1 e2 e3 R S (fun adr2 h2 k2 u2 T2 S2 _ t => wpAny_truthy_bool (((PQ.ofT ev).after T2 k2).here S2 rfl t)) fun _ _ _ h => h) (marks_ok t3 op)
  | cmp2 t1 t2 t3 t4 t5 => exact t_cmp2 hx t1 t2 t3 t4 t5 ev R S PQ
  | @ife c l r p k a a' t1 t2 t3 =>
    rw [arm_isTrue_IfExp]
    have ev : ((E.t k ρ H).bind fun u => match u.1 with | true => E.t a ρ u.2 | false => E.t a' ρ u.2) = some (b, H') := ev
    refine bnd2 ev fun g H1 e1 ev => wpAny_bind (ht m c k A Er s adr H H1 env ρ g _ t1 e1 R S fun adr1 h1 k1 u1 T1 S1 x1 => ?_)
    rw [show u1 = g from x1]
    cases g with
    | true => exact ht m l a A Er ⟨h1, s.gens, s.drawn, k1, s.os⟩ adr1 H1 H' env ρ b _ t2 ev R S1 (PQ.after T1 k1)
    | false => exact ht m r a' A Er ⟨h1, s.gens, s.drawn, k1, s.os⟩ adr1 H1 H' env ρ b _ t3 ev R S1 (PQ.after T1 k1)
  | _ => exact t_value (E' := E') hx tr0 rfl ev R S PQ
end
end Mn
end
section
set_option maxRecDepth 100000
namespace Mn
open PySem PySem.W PyProof.Rows PySem.Calls SeqAt
section
variable {prog : Program} {w : World} {K : Frag} {B : Heap} {D : Ad} {P : Pg}
variable {E : Ev} {d : Nat} {A : Around} {Er : Value → Shared → Prop} {s : Shared} {adr : List Addr} {H H' : MH} {env : Env} {ρ ρ' : Loc}
theorem getL_set (x y : Nat) (v : MV) : ∀ (ρ : Loc), zhh y (zhi x v ρ) = if y = x then some v else zhh y ρ
  | [] => by
    show zhh y [(x, v)] = if y = x then some v else none
    rw [getL_ite]
    by_cases q : x = y
    · rw [if_pos q, if_pos q.symm]
    · rw [if_neg q, if_neg fun e => q e.symm]
      rfl
  | (z, u) :: r => by
    rw [setL_ite, getL_ite y z u r]
    by_cases q : z = x
    · rw [if_pos q, getL_ite]
      subst q
      by_cases q' : z = y
      · rw [if_pos q', if_pos q'.symm]
      · rw [if_neg q', if_neg q', if_neg fun e => q' e.symm]
    · rw [if_neg q, getL_ite, getL_set x y v r]
      by_cases q' : z = y
      · rw [if_pos q', if_pos q', if_neg fun e => q (q'.trans e)]
      · rw [if_neg q', if_neg q']
theorem LR.same {h : Heap} {ρ₂ : Loc} (L : LR D adr h env ρ) (e : ∀ y, zhh y ρ₂ = zhh y ρ) : LR D adr h env ρ₂ := by
  obtain ⟨m, a, c⟩ := L.ns
  exact ⟨⟨m, a, fun s v ok q => c s v ok ((e _).symm.trans q)⟩, L.cl, fun s v ok q => L.cv s v ok ((e _).symm.trans q)⟩
theorem own_cell_ne (S : EnvOk B adr env) {n n' : Str} {c : Addr} (e : env.cells.lookup n = some c) (e' : env.cells.lookup n' = some c) : n = n' :=
  name_of_addr (List.pairwise_map.mp (List.nodup_cons.mp S.nd).2) (mem_of_lookup e) (mem_of_lookup e')
theorem cell_locals (S : EnvOk B adr env) {n : Str} {c : Addr} (e : env.cells.lookup n = some c) : c ≠ env.locals := fun z =>
  (List.nodup_cons.mp S.nd).1 (z ▸ List.mem_map.mpr ⟨(n, c), mem_of_lookup e, rfl⟩)
theorem St.own_turn {a : Addr} {h' : Heap} (S : St prog w B D adr H ρ env s.heap) (ha : a ∈ own env) (hs : Heap.SameBut a s.heap h') (hl : (h'.get? a).isSome = true) (L : SoftKeep s.heap h' → LR D adr h' env ρ') :
    Tn adr env s.heap adr h' ∧ St prog w B D adr H ρ' env h' := by
  have sk : SoftKeep s.heap h' := soft1 (own_hard S.lr S.en a ha) hs
  have keep : ∀ b o, s.heap.get? b = some o → b ≠ a → h'.get? b = some o := fun b o e n => (hs.2 b n).trans e
  refine ⟨⟨List.prefix_refl _, fun _ q => .inl q, ⟨fun b o e _ n => keep b o e fun z => n (z ▸ ha), live_but hs hl⟩⟩, ⟨⟨fun b o e => keep b o (S.sr.base b o e) fun z => ?_, S.sr.len, S.sr.nd, fun i o e => ?_, S.sr.full, S.sr.st⟩, L sk, S.en⟩⟩
  · have := S.en.offB a ha
    rw [← z, e] at this
    cases this
  · obtain ⟨b, e1, O⟩ := S.sr.obj i o e
    exact ⟨b, e1, O.mono (List.prefix_refl _) sk fun ob e => keep b ob e fun z => S.en.offA a ha (z ▸ List.mem_of_getElem? e1)⟩
theorem set_cases {x y : Str} {v v' : MV} (ok : okS y) (hx : okS x) (e : zhh (code y) (zhi (code x) v ρ) = some v') : (y = x ∧ v = v') ∨ (y ≠ x ∧ zhh (code y) ρ = some v') := by
  rw [getL_set] at e
  by_cases z : y = x
  · rw [z, if_pos rfl] at e
    exact .inl ⟨z, Option.some.inj e⟩
  · rw [if_neg fun c => z (code_inj ok hx c)] at e
    exact .inr ⟨z, e⟩
theorem store_ok {x : Str} {v : MV} {u : Value} {Q : Unit → Shared → Prop} (hx : okS x) (hk : env.kindOf x = some .local ∨ env.kindOf x = some .cell) (S : St prog w B D adr H ρ env s.heap) (xv : VR D adr s.heap v u)
    (PQ : Po prog w B D adr env s H (zhi (code x) v ρ) (fun _ _ _ => True) Q) : wpAny (model prog w) A (storeName env x u) Q Er s := by
  obtain ⟨m, hns, hval⟩ := S.lr.ns
  rcases hk with hk | hk
  · refine wpAny_storeName_local hk hns (fun h' hn' hs => ?_) (by rw [S.en.kind]; rfl)
    obtain ⟨T, S'⟩ := S.own_turn (ρ' := zhi (code x) v ρ) own_locals hs (by obtain ⟨o, _, _, e, _⟩ := hn'; exact some_of e) fun sk => by
      have ck : ∀ {n c}, env.cells.lookup n = some c → ∀ {v}, s.heap.IsCell c v → h'.IsCell c v := fun e _ x => cell_keep x fun o e' => (hs.2 _ (cell_locals S.en e)).trans e'
      refine ⟨⟨_, hn', fun y v' ok e q => ?_⟩, fun n c e => ?_, fun y v' ok e q => ?_⟩
      · rcases set_cases ok hx e with ⟨rfl, rfl⟩ | ⟨z, e⟩
        · exact ⟨u, if_pos rfl, xv.mono (List.prefix_refl _) sk⟩
        · obtain ⟨u', e1, x1⟩ := hval y v' ok e q
          exact ⟨u', (if_neg z).trans e1, x1.mono (List.prefix_refl _) sk⟩
      · obtain ⟨v, x⟩ := S.lr.cl n c e
        exact ⟨v, ck e x⟩
      · rcases set_cases ok hx e with ⟨rfl, rfl⟩ | ⟨z, e⟩
        · rw [hk] at q; cases q
        · obtain ⟨c, u', e1, x1, x2⟩ := S.lr.cv y v' ok e q
          exact ⟨c, u', e1, ck e1 x1, x2.mono (List.prefix_refl _) sk⟩
    exact PQ adr h' _ () T S' trivial
  · obtain ⟨c, hcc⟩ := S.en.held x hk
    obtain ⟨v0, hc0⟩ := S.lr.cl x c hcc
    refine wpAny_storeName_cell S.en.kind hk hcc hc0 fun h' hv' hs => ?_
    obtain ⟨T, S'⟩ := S.own_turn (ρ' := zhi (code x) v ρ) (own_cell hcc) hs (by obtain ⟨o, e, _⟩ := hv'; exact some_of e) fun sk => by
      have ck : ∀ {n c'}, n ≠ x → env.cells.lookup n = some c' → ∀ {v}, s.heap.IsCell c' v → h'.IsCell c' v := fun z e _ x => cell_keep x fun o e' => (hs.2 _ fun q => z (own_cell_ne S.en (q ▸ e) hcc)).trans e'
      refine ⟨⟨m, hns.sameBut hs (cell_locals S.en hcc).symm, fun y v' ok e q => ?_⟩, fun n c' e => ?_, fun y v' ok e q => ?_⟩
      · rcases set_cases ok hx e with ⟨rfl, rfl⟩ | ⟨z, e⟩
        · rw [hk] at q; cases q
        · obtain ⟨u', e1, x1⟩ := hval y v' ok e q
          exact ⟨u', e1, x1.mono (List.prefix_refl _) sk⟩
      · by_cases z : n = x
        · exact ⟨_, Option.some.inj ((z ▸ hcc).symm.trans e) ▸ hv'⟩
        · obtain ⟨v, x⟩ := S.lr.cl n c' e
          exact ⟨v, ck z e x⟩
      · rcases set_cases ok hx e with ⟨rfl, rfl⟩ | ⟨z, e⟩
        · exact ⟨c, u, hcc, hv', xv.mono (List.prefix_refl _) sk⟩
        · obtain ⟨c', u', e1, x1, x2⟩ := S.lr.cv y v' ok e q
          exact ⟨c', u', e1, ck z e1 x1, x2.mono (List.prefix_refl _) sk⟩
    exact PQ adr h' s.toks () T S' trivial
theorem each_ok {m : Nat} {sc : Scope} {t : PySem.Expr} {x : MT} (h : trT m sc t = some x) (rest : List PySem.Expr) (env : Env) : assignEach (t :: rest) env = (false, assign t env) :: assignEach rest env := by
  cases t with
  | Starred => cases m <;> cases h
  | _ => rfl
theorem each_all {m : Nat} {sc : Scope} {ts : List PySem.Expr} : ∀ {xs : List MT}, all? (trT m sc) ts = some xs → (assignEach ts env).length = xs.length ∧ (assignEach ts env).findIdx? (·.1) = none := by
  induction ts with
  | nil => intro xs tr; obtain rfl := all_nil tr; exact ⟨rfl, rfl⟩
  | cons t ts ih =>
    intro xs tr
    obtain ⟨a, as, t1, t2, rfl⟩ := all_inv tr
    rw [each_ok t1]
    obtain ⟨i1, i2⟩ := ih t2
    refine ⟨congrArg Nat.succ i1, ?_⟩
    rw [List.findIdx?_cons, i2]
    rfl
theorem setAttr_okP (C : Cx prog w K B D P) {z : Str} {o v : MV} {u uv : Value} {Q : Unit → Shared → Prop} (hz : okS z) (e : setAttr P H o (code z) v = some H') (S : St prog w B D adr H ρ env s.heap) (xo : VR D adr s.heap o u) (xv : VR D adr s.heap v uv)
    (PQ : PU prog w B D adr env ρ s H' Q) : wpAny (model prog w) A (PySem.setAttr u z uv) Q Er s := by
  refine bnd e fun q e1 e4 => gd e4 fun hg e5 => ?_
  obtain ⟨k, rfl, e1, e2⟩ := instAt_inv e1
  exact setAttr_ok (C.X.keeps S.sr.base) (C.cls _ (.inl ⟨_, hg.1⟩)) S hz e1 e2 hg.2.1 hg.1 hg.2.2 xo xv (by rw [Option.some.inj e5]; exact PQ)
inductive TtI (m : Nat) (sc : Scope) : PySem.Expr → MT → Prop
  | nam {x : Str} {p : Pos} (ok : okS x) (hl : sc.names.lookup x = some .local ∨ sc.names.lookup x = some .cell) : TtI m sc (.Name x p) (.nam (code x))
  | tup {ts : List PySem.Expr} {q : Nat} {p : Pos} {xs : List MT} (t : all? (trT m sc) ts = some xs) : TtI m sc (.Tuple ts q p) (.tup xs)
  | sub {o i : PySem.Expr} {p : Pos} {a j : MX} (t1 : trE m sc o = some a) (t2 : trE m sc i = some j) : TtI m sc (.Subscript o i p) (.sub a j)
  | att {o : PySem.Expr} {x : Str} {p : Pos} {a : MX} (ok : okS x) (t : trE m sc o = some a) : TtI m sc (.Attribute o x p) (.att a (code x))
theorem TtI.of {m : Nat} {sc : Scope} {x : PySem.Expr} {e e' : MT} (h : some e' = some e) (k : TtI m sc x e') : TtI m sc x e := by rw [← Option.some.inj h]; exact k
theorem trT_inv {m : Nat} {sc : Scope} {tx : PySem.Expr} {t : MT} (tr : trT (m + 1) sc tx = some t) : TtI m sc tx t := by
  cases tx with
  | Name x p =>
    have tr : (if okN x = false then none else (match sc.names.lookup x with | some .local => some (MT.nam (code x)) | some .cell => some (MT.nam (code x)) | _ => none)) = some t := tr
    by_cases hN : okN x = false
    · rw [if_pos hN] at tr; cases tr
    · rw [if_neg hN] at tr
      split at tr
      · rename_i q; exact .of tr (.nam (okN_low hN).1 (.inl q))
      · rename_i q; exact .of tr (.nam (okN_low hN).1 (.inr q))
      · cases tr
  | Tuple ts q p => exact bnd (f := fun ts => some (MT.tup ts)) tr fun xs t1 tr => .of tr (.tup t1)
  | Subscript o i p =>
    have tr : (if isSlc i = true then none else (trE m sc o).bind fun a => (trE m sc i).bind fun i => some (MT.sub a i)) = some t := tr
    by_cases h : isSlc i = true
    · rw [if_pos h] at tr; cases tr
    · rw [if_neg h] at tr
      exact bnd tr fun a t1 tr => bnd tr fun j t2 tr => .of tr (.sub t1 t2)
  | Attribute o x p => exact gd (o := (trE m sc o).bind fun a => some (MT.att a (code x))) tr fun g tr => bnd tr fun a t1 tr => .of tr (.att (low_ok (Bool.and_eq_true_iff.mp g).1) t1)
  | _ => cases tr
theorem puts_cons {t : MT} {ts : List MT} {vs : List MV} {q : Loc × MH} (e : puts P E (t :: ts) vs ρ H = some q) : ∃ v vs' ρ1 H1, vs = v :: vs' ∧ put P E t v ρ H = some (ρ1, H1) ∧ puts P E ts vs' ρ1 H1 = some q := by
  cases vs with
  | nil => cases e
  | cons v vs =>
    rw [puts] at e
    exact bnd2 e fun ρ1 H1 e1 e => ⟨v, vs, ρ1, H1, rfl, e1, e⟩
theorem puts_nil {vs : List MV} {q : Loc × MH} (e : puts P E [] vs ρ H = some q) : vs = [] ∧ some (ρ, H) = some q := by
  cases vs with
  | nil => rw [puts] at e; exact ⟨rfl, e⟩
  | cons v vs => cases e
theorem puts_len {ts : List MT} : ∀ {vs : List MV} {ρ : Loc} {H : MH} {q : Loc × MH}, puts P E ts vs ρ H = some q → ts.length = vs.length := by
  induction ts with
  | nil => intro vs ρ H q e; rw [(puts_nil e).1]; rfl
  | cons t ts ih =>
    intro vs ρ H q e
    obtain ⟨v, vs', ρ1, H1, rfl, _, e⟩ := puts_cons e
    exact congrArg Nat.succ (ih e)
theorem Po.ofU {α : Type} {H0 : MH} {ρ0 : Loc} {R : List Addr → Heap → α → Prop} {Q : α → Shared → Prop} (e : some (ρ0, H0) = some (ρ', H')) (P : Po prog w B D adr env s H' ρ' R Q) : Po prog w B D adr env s H0 ρ0 R Q := by
  cases e
  exact P
theorem put_ok (C : Cx prog w K B D P) (hx : SX prog w B D E d) (R : Room A d) : ∀ (m : Nat) {tx : PySem.Expr} {t : MT} {s : Shared} {adr : List Addr} {H H' : MH} {ρ ρ' : Loc} {v : MV} {u : Value} {Q : Unit → Shared → Prop}, trT m env.scope tx = some t → put P E t v ρ H = some (ρ', H') →
    St prog w B D adr H ρ env s.heap → VR D adr s.heap v u → Po prog w B D adr env s H' ρ' (fun _ _ _ => True) Q → wpAny (model prog w) A (assign tx env u) Q Er s := by
  intro m
  induction m with
  | zero => intro tx t s adr H H' ρ ρ' v u Q tr; cases tr
  | succ m ih =>
    intro tx t s adr H H' ρ ρ' v u Q tr e S xv PQ
    have rows : ∀ {ts : List PySem.Expr} {xs : List MT} {s : Shared} {adr : List Addr} {H : MH} {ρ : Loc} {vs : List MV} {us : List Value}, all? (trT m env.scope) ts = some xs → puts P E xs vs ρ H = some (ρ', H') →
        St prog w B D adr H ρ env s.heap → VRs D adr s.heap vs us → Po prog w B D adr env s H' ρ' (fun _ _ _ => True) Q → wpAny (model prog w) A (assignInOrder ((assignEach ts env).map (·.2)) us) Q Er s := by
      intro ts
      induction ts with
      | nil =>
        intro xs s adr H ρ vs us tr e S xs' PQ
        obtain rfl := all_nil tr
        obtain ⟨rfl, e⟩ := puts_nil e
        rw [show us = [] from xs'.inv]
        exact wpAny_assignInOrder_none ((PQ.ofU e).here S trivial s.toks)
      | cons t ts ih2 =>
        intro xs s adr H ρ vs us tr e S xs' PQ
        obtain ⟨a, as, t1, t2, rfl⟩ := all_inv tr
        rw [each_ok t1]
        obtain ⟨v, vs', ρ1, H1, rfl, e1, e⟩ := puts_cons e
        obtain ⟨uv, us, rfl, xv, xs'⟩ := xs'.inv
        exact wpAny_assignInOrder_more (ih t1 e1 S xv fun adr1 h1 k1 _ T1 S1 _ => ih2 (s := ⟨h1, s.gens, s.drawn, k1, s.os⟩) t2 e S1 (S.vts T1 xs') (PQ.after T1 k1))
    cases trT_inv tr with
    | nam ok hl =>
      rw [put] at e
      exact wpAny_assign_Name (store_ok ok hl S xv (PQ.ofU e))
    | tup t1 =>
      rw [put] at e
      refine bnd e fun vs e1 e => ?_
      obtain ⟨a, ws, rfl, ht, hv⟩ := ((asTup_inv e1 ▸ xv : VR D adr s.heap (.tup vs) u)).inv
      obtain ⟨i1, i2⟩ := each_all (env := env) t1
      refine wpAny_assign_Tuple R.hh ht (i1.trans ((puts_len e).trans (hv.length.trans Array.length_toList))) i2 fun h' hs => ?_
      have k : ∀ b o, s.heap.get? b = some o → h'.get? b = some o := fun b o e => hs b o (Nat.ne_of_lt (Heap.lt_size e)) e
      exact rows (s := ⟨h', s.gens, s.drawn, s.toks, s.os⟩) t1 e (S.grown k) (hv.mono (List.prefix_refl _) (.of_keep k)) (PQ.after (Tn.grown k) s.toks)
    | @sub o i p a j t1 t2 =>
      rw [put] at e
      rw [arm_assign_Subscript]
      exact bnd2 e fun vo H1 e1 e => bnd2 e fun vi H2 e2 e => bnd e fun H3 e3 e => wpAny_bind (wpAny_holding (hx m o a A Er s adr H H1 env ρ vo _ t1 e1 R S fun adr1 h1 k1 u1 T1 S1 x1 =>
        wpAny_bind (wpAny_holding (hx m i j A Er ⟨h1, s.gens, s.drawn, k1, s.os⟩ adr1 H1 H2 env ρ vi _ t2 e2 R S1 fun adr2 h2 k2 u2 T2 S2 x2 =>
        wpAny_bind (wpAny_standAt (wpAny_bind (wpAny_holding (setItem_ok (s := ⟨h2, s.gens, s.drawn, k2, s.os⟩) e3 S2 (S1.vt T2 x1) x2 (S.vt (T1.trans T2) xv) fun adr3 h3 k3 T3 S3 =>
        wpAny_release ((PQ.ofU e) adr3 h3 k3 () ((T1.trans T2).trans T3) S3 trivial)))))))))
    | @att o x p a ok t1 =>
      rw [put] at e
      rw [arm_assign_Attribute]
      exact bnd2 e fun vo H1 e1 e => bnd e fun H3 e3 e => wpAny_bind (wpAny_holding (hx m _ a A Er s adr H H1 env ρ vo _ t1 e1 R S fun adr1 h1 k1 u1 T1 S1 x1 =>
        wpAny_bind (wpAny_standAt (wpAny_bind (wpAny_holding (setAttr_okP (s := ⟨h1, s.gens, s.drawn, k1, s.os⟩) C ok e3 S1 x1 (S.vt T1 xv) fun adr2 h2 k2 T2 S2 =>
        wpAny_release ((PQ.ofU e) adr2 h2 k2 () (T1.trans T2) S2 trivial)))))))
end
end Mn
end
section
set_option maxRecDepth 100000
namespace Mn
open PySem PySem.W PyProof.Rows PySem.Calls SeqAt
noncomputable def ItR (D : Ad) (adr : List Addr) (h : Heap) : It → Value → List Addr → Prop
  | .lst k i, u, pts => ∃ it l, u = .ref it ∧ pts = [it] ∧ adr[k]? = some l ∧ h.IsListIter it l i
  | .tup vs, u, pts => ∃ it t i ws, u = .ref it ∧ pts = [it] ∧ h.IsTupleIter it t i ∧ h.IsTuple t ws ∧ VRs D adr h vs (ws.toList.drop i)
  | .rng x step n, u, pts => ∃ it, u = .ref it ∧ pts = [it] ∧ IsRangeIter h it x n step
  | .enu i k, u, pts => ∃ e it l old, u = .ref e ∧ pts = [e, it] ∧ adr[k]? = some l ∧ IsEnum h e it i old ∧ h.IsListIter it l i ∧ e ≠ it
section
variable {prog : Program} {w : World} {K : Frag} {B : Heap} {D : Ad} {P : Pg}
variable {E : Ev} {d : Nat} {A : Around} {Er : Value → Shared → Prop} {s : Shared} {adr adr' : List Addr} {H H' : MH} {env : Env} {ρ ρ' : Loc} {h h' : Heap}
theorem tupIter_hard {a l : Addr} {i : Nat} (x : h.IsTupleIter a l i) : Hard h a := by
  obtain ⟨o, e, hc, hd⟩ := x
  exact hard_of e (by rw [hc]; simp) (by rw [hc]; simp)
theorem lit_at {a l : Addr} {i : Nat} (x : h.IsListIter a l i) : (h.get? a).isSome = true := by obtain ⟨o, e, _⟩ := x; exact some_of e
theorem mem1 {a b : Addr} {C : Addr → Prop} (h : C b) (q : a ∈ [b]) : C a := List.mem_singleton.mp q ▸ h
theorem mem2 {a b c : Addr} {C : Addr → Prop} (h : C b) (h' : C c) (q : a ∈ [b, c]) : C a := (List.mem_cons.mp q).elim (fun e => e ▸ h) fun q => mem1 h' q
noncomputable abbrev Pt (h : Heap) (a : Addr) : Prop := Hard h a ∧ (h.get? a).isSome = true
theorem ItR.at {it : It} {u : Value} {pts : List Addr} (x : ItR D adr h it u pts) : ∀ a ∈ pts, Hard h a ∧ (h.get? a).isSome = true := by
  cases it with
  | lst k i => obtain ⟨it, l, _, rfl, e, hi⟩ := x; exact fun a => mem1 (C := Pt h) ⟨iter_hard hi, lit_at hi⟩
  | tup vs => obtain ⟨it, t, i, ws, _, rfl, hi, _⟩ := x; exact fun a => mem1 (C := Pt h) ⟨tupIter_hard hi, by obtain ⟨o, e, _⟩ := hi; exact some_of e⟩
  | rng x step n => obtain ⟨it, _, rfl, hi⟩ := x; exact fun a => mem1 (C := Pt h) ⟨hard_of hi (by simp) (by simp), some_of hi⟩
  | enu i k => obtain ⟨e, it, l, old, _, rfl, q, he, hi, hne⟩ := x; exact fun a => mem2 (C := Pt h) ⟨hard_of he (by simp) (by simp), some_of he⟩ ⟨iter_hard hi, lit_at hi⟩
theorem ItR.hard {it : It} {u : Value} {pts : List Addr} (x : ItR D adr h it u pts) : ∀ a ∈ pts, Hard h a := fun a q => (x.at a q).1
theorem ItR.live {it : It} {u : Value} {pts : List Addr} (x : ItR D adr h it u pts) : ∀ a ∈ pts, (h.get? a).isSome = true := fun a q => (x.at a q).2
theorem ItR.mono {it : It} {u : Value} {pts : List Addr} (x : ItR D adr h it u pts) (hp : adr <+: adr') (hs : SoftKeep h h') (k : ∀ a ∈ pts, ∀ o, h.get? a = some o → h'.get? a = some o) : ItR D adr' h' it u pts := by
  cases it with
  | lst k' i => obtain ⟨it, l, e1, rfl, e, hi⟩ := x; exact ⟨it, l, e1, rfl, pre_get hp e, hi.at fun o e => k _ (.head _) o e⟩
  | tup vs =>
    obtain ⟨it, t, i, ws, e1, rfl, ⟨o, e, r⟩, ht, hv⟩ := x
    exact ⟨it, t, i, ws, e1, rfl, ⟨o, k _ (.head _) o e, r⟩, hs.1 _ _ ht, hv.mono hp hs⟩
  | rng x step n => obtain ⟨it, e1, rfl, hi⟩ := x; exact ⟨it, e1, rfl, k _ (.head _) _ hi⟩
  | enu i k' =>
    obtain ⟨e, it, l, old, e1, rfl, q, he, hi, hne⟩ := x
    exact ⟨e, it, l, old, e1, rfl, pre_get hp q, k _ (.head _) _ he, hi.at fun o e => k _ (.tail _ (.head _)) o e, hne⟩
theorem St.aside {l : List Addr} (S : St prog w B D adr H ρ env h) (hl : ∀ a ∈ l, Hard h a) (k : ∀ b o, b ∉ l → h.get? b = some o → h'.get? b = some o) (ha : ∀ a ∈ l, a ∉ adr) (ho : ∀ a ∈ l, a ∉ own env) (hb : ∀ a ∈ l, B.get? a = none) : St prog w B D adr H ρ env h' := by
  have hs : SoftKeep h h' := soft_of hl fun b o e n => k b o n e
  refine ⟨⟨fun b o e => k _ _ (fun q => ?_) (S.sr.base b o e), S.sr.len, S.sr.nd, fun i o e => ?_, S.sr.full, S.sr.st⟩, S.lr.keep (List.prefix_refl _) hs fun a q o e => k _ _ (fun z => ho a z q) e, S.en⟩
  · rw [hb b q] at e; cases e
  · obtain ⟨a, e1, O⟩ := S.sr.obj i o e
    exact ⟨a, e1, O.mono (List.prefix_refl _) hs fun ob e => k _ _ (fun z => ha a z (List.mem_of_getElem? e1)) e⟩
noncomputable def isTupE : PySem.Expr → Bool
  | .Tuple .. => true
  | _ => false
noncomputable def isNameE : PySem.Expr → Bool
  | .Name .. => true
  | _ => false
theorem go_name {t : PySem.Expr} (h : isNameE t = true) (it v : Value) : letOwnedTupleGo t it v = pure () := by
  cases t with
  | Name => rfl
  | _ => cases h
noncomputable def tupE (tx : PySem.Expr) : It → Bool
  | .enu _ _ => isTupE tx
  | .lst _ _ => isTupE tx || isNameE tx
  | _ => isNameE tx
theorem tupE_ok {m : Nat} {sc : Scope} {tx : PySem.Expr} {t : MT} {it : It} (tr : trT m sc tx = some t) (h : tupOk t it = true) : tupE tx it = true := by
  cases m with
  | zero => cases tr
  | succ m =>
    cases trT_inv tr with
    | nam => cases it <;> first | rfl | cases h
    | tup => cases it <;> first | rfl | cases h
    | _ => cases it <;> cases h
theorem isTupE_inv {tx : PySem.Expr} (h : isTupE tx = true) : ∃ a b c, tx = .Tuple a b c := by
  cases tx with
  | Tuple a b c => exact ⟨a, b, c, rfl⟩
  | _ => cases h
noncomputable def Nx (prog : Program) (w : World) (A : Around) (Er : Value → Shared → Prop) (tx : PySem.Expr) (u : Value) (Qn : Shared → Prop) (Qs : Value → Shared → Prop) (s : Shared) : Prop :=
  wpAny (model prog w) A (pyNext u) (fun r s₁ => match r with | none => Qn s₁ | some v => wpAny (model prog w) A (letOwnedTupleGo tx u v) (fun _ s₂ => Qs v s₂) Er s₁) Er s
noncomputable def NxQ (D : Ad) (adr : List Addr) (s : Shared) (tx : PySem.Expr) (u : Value) (pts : List Addr) (r : Option (MV × It)) (Qn : Shared → Prop) (Qs : Value → Shared → Prop) : Prop := match r with
  | none => ∀ h', (∀ b o, b ∉ pts → s.heap.get? b = some o → h'.get? b = some o) → Qn ⟨h', s.gens, s.drawn, s.toks, s.os⟩
  | some p => ∀ h' t uv, (∀ b o, b ∉ pts → s.heap.get? b = some o → h'.get? b = some o) → ItR D adr h' p.2 u pts → VR D adr h' p.1 uv → tupE tx p.2 = true → Qs uv ⟨h', s.gens, s.drawn, t, s.os⟩
theorem NxQ.of {tx : PySem.Expr} {u : Value} {pts : List Addr} {r r' : Option (MV × It)} {Qn : Shared → Prop} {Qs : Value → Shared → Prop} (e : some r' = some r) (h : NxQ D adr s tx u pts r Qn Qs) : NxQ D adr s tx u pts r' Qn Qs := by rw [Option.some.inj e]; exact h
theorem off1 {a b : Addr} (h : b ∉ [a]) : b ≠ a := fun e => h (e ▸ .head _)
theorem off2 {a c b : Addr} (h : b ∉ [a, c]) : b ≠ a ∧ b ≠ c := ⟨fun e => h (e ▸ .head _), fun e => h (e ▸ .tail _ (.head _))⟩
theorem go_any {it l : Addr} {i : Nat} {tx : PySem.Expr} {uv : Value} {Q : Unit → Shared → Prop} (hT : (isTupE tx || isNameE tx) = true) (hi : s.heap.IsListIter it l i) (h : Q () s) : wpAny (model prog w) A (letOwnedTupleGo tx (.ref it) uv) Q Er s := by
  rcases Bool.or_eq_true_iff.mp hT with ht | ht
  · obtain ⟨_, _, _, rfl⟩ := isTupE_inv ht
    cases uv with
    | ref T => exact wpAny_letOwnedTupleGo_listiter hi h
    | _ => exact wpAny_pure h
  · rw [go_name ht]
    exact wpAny_pure h
theorem next_lst {k i : Nat} {r : Option (MV × It)} {u : Value} {pts : List Addr} {tx : PySem.Expr} {Qn : Shared → Prop} {Qs : Value → Shared → Prop} (e : It.next H (.lst k i) = some r) (S : SR prog w B D adr H s.heap) (x : ItR D adr s.heap (.lst k i) u pts) (hh : A.handled = none) (hT : tupE tx (.lst k i) = true)
    (h : NxQ D adr s tx u pts r Qn Qs) : Nx prog w A Er tx u Qn Qs s := by
  refine bnd e fun vs e1 e => ?_
  obtain ⟨it, l, rfl, rfl, q, hi⟩ := x
  obtain ⟨k', l', ws, q1, q2, q3, hl, hv⟩ := listAt_ok S e1 (.ref k l q)
  cases q2
  have h := h.of e
  cases hvi : vs[i]? with
  | some v =>
    rw [hvi] at h
    obtain ⟨uv, hu, xu⟩ := hv.get hvi
    rw [Array.getElem?_toList] at hu
    exact wpAny_pyNext_list_item hi hl hu fun h' hi' hsb => go_any hT hi' (h h' s.toks uv (fun b o n e => (hsb.2 b (off1 n)).trans e) ⟨it, l, rfl, rfl, q, hi'⟩ (xu.mono (List.prefix_refl _) (soft1 (iter_hard hi) hsb)) hT)
  | none =>
    rw [hvi] at h
    exact wpAny_pyNext_list_end hh hi hl (Array.getElem?_toList.symm.trans (hv.none_get hvi)) fun h' he => h h' fun b o n e => he b o (off1 n) e
theorem next_enu {k i : Nat} {r : Option (MV × It)} {u : Value} {pts : List Addr} {tx : PySem.Expr} {Qn : Shared → Prop} {Qs : Value → Shared → Prop} (e : It.next H (.enu i k) = some r) (S : SR prog w B D adr H s.heap) (x : ItR D adr s.heap (.enu i k) u pts) (hh : A.handled = none) (hT : isTupE tx = true)
    (h : NxQ D adr s tx u pts r Qn Qs) : Nx prog w A Er tx u Qn Qs s := by
  refine bnd e fun vs e1 e => ?_
  obtain ⟨ea, it, l, old, rfl, rfl, q, he, hi, hne⟩ := x
  obtain ⟨k', l', ws, q1, q2, q3, hl, hv⟩ := listAt_ok S e1 (.ref k l q)
  cases q2
  have h := h.of e
  cases hvi : vs[i]? with
  | some v =>
    rw [hvi] at h
    obtain ⟨uv, hu, xu⟩ := hv.get hvi
    rw [Array.getElem?_toList] at hu
    refine wpAny_pyNext_enum_item he hi hl hu hne fun h' ho hi' ht hz hk => ?_
    obtain ⟨_, _, _, rfl⟩ := isTupE_inv hT
    show wpAny _ _ (letOwnedTupleGo _ (.ref ea) (.ref s.heap.objs.size)) _ _ _
    refine wpAny_letOwnedTupleGo_enum ho fun h2 he2 hsb => ?_
    have hea : (s.heap.objs.size) ≠ ea := fun e => Nat.lt_irrefl _ (e ▸ Heap.lt_size he)
    have keep : ∀ b o, b ∉ [ea, it] → s.heap.get? b = some o → h2.get? b = some o := fun b o n e => (hsb.2 b (off2 n).1).trans (hk b o (off2 n).1 (off2 n).2 e)
    have sk : SoftKeep s.heap h2 := soft_of (l := [ea, it]) (fun b => mem2 (C := Hard s.heap) (hard_of he (by simp) (by simp)) (iter_hard hi)) fun b ob e n => keep b ob n e
    exact h h2 _ _ keep ⟨ea, it, l, uv, rfl, rfl, q, he2, hi'.at fun o e => (hsb.2 it hne.symm).trans e, hne⟩ (.tup _ _ #[.int i s.toks, uv] ⟨_, (hsb.2 _ hea).trans ht, rfl, 0, rfl⟩ (.cons (.int _ _) (.cons (xu.mono (List.prefix_refl _) sk) .nil))) rfl
  | none =>
    rw [hvi] at h
    exact wpAny_pyNext_enum_end hh he hi hl (Array.getElem?_toList.symm.trans (hv.none_get hvi)) fun h' hx => h h' fun b o n e => hx b o (off2 n).2 e
theorem next_tup {vs : List MV} {r : Option (MV × It)} {u : Value} {pts : List Addr} {tx : PySem.Expr} {Qn : Shared → Prop} {Qs : Value → Shared → Prop} (e : It.next H (.tup vs) = some r) (x : ItR D adr s.heap (.tup vs) u pts) (hh : A.handled = none) (hT : isNameE tx = true)
    (h : NxQ D adr s tx u pts r Qn Qs) : Nx prog w A Er tx u Qn Qs s := by
  obtain ⟨it, t, i, ws, rfl, rfl, hi, ht, hv⟩ := x
  cases vs with
  | nil =>
    have hd : ws.toList.drop i = [] := hv.inv
    exact wpAny_pyNext_tuple_end hh hi ht (Array.getElem?_eq_none (by rw [List.drop_eq_nil_iff] at hd; simpa using hd)) fun h' he => h.of e h' fun b o n e => he b o (off1 n) e
  | cons v vs =>
    obtain ⟨uv, us, hd, xu, xs⟩ := hv.inv
    have hu : ws[i]? = some uv := by rw [← Array.getElem?_toList, ← List.head?_drop, hd]; rfl
    refine wpAny_pyNext_tuple_item hi ht hu fun h' hi' hsb => ?_
    have sk : SoftKeep s.heap h' := soft1 (tupIter_hard hi) hsb
    show wpAny _ _ (letOwnedTupleGo tx (.ref it) uv) _ _ _
    rw [go_name hT]
    refine wpAny_pure (h.of e h' s.toks uv (fun b o n e => (hsb.2 b (off1 n)).trans e) ⟨it, t, i + 1, ws, rfl, rfl, hi', sk.1 _ _ ht, ?_⟩ (xu.mono (List.prefix_refl _) sk) hT)
    rw [← List.drop_drop, hd]
    exact xs.mono (List.prefix_refl _) sk
theorem next_rng {a step : Int} {n : Nat} {r : Option (MV × It)} {u : Value} {pts : List Addr} {tx : PySem.Expr} {Qn : Shared → Prop} {Qs : Value → Shared → Prop} (e : It.next H (.rng a step n) = some r) (x : ItR D adr s.heap (.rng a step n) u pts) (hh : A.handled = none) (hT : isNameE tx = true)
    (h : NxQ D adr s tx u pts r Qn Qs) : Nx prog w A Er tx u Qn Qs s := by
  obtain ⟨it, rfl, rfl, hi⟩ := x
  cases n with
  | zero => exact wpAny_pyNext_range_end hh hi (Int.le_refl _) fun h' he => h.of e h' fun b o n e => he b o (off1 n) e
  | succ n =>
    refine wpAny_pyNext_range_item hi (Int.natCast_pos.mpr (Nat.succ_pos n)) fun h' hi' hsb => ?_
    show wpAny _ _ (letOwnedTupleGo tx (.ref it) _) _ _ _
    rw [go_name hT]
    have q : ((n + 1 : Nat) : Int) - 1 = n := Int.add_sub_cancel (n : Int) 1
    rw [q] at hi'
    exact wpAny_pure (h.of e h' _ _ (fun b o n e => (hsb.2 b (off1 n)).trans e) ⟨it, rfl, rfl, hi'⟩ (.int _ _) hT)
theorem next_ok {it : It} {r : Option (MV × It)} {u : Value} {pts : List Addr} {tx : PySem.Expr} {Qn : Shared → Prop} {Qs : Value → Shared → Prop} (e : it.next H = some r) (S : SR prog w B D adr H s.heap) (x : ItR D adr s.heap it u pts) (hh : A.handled = none) (hT : tupE tx it = true)
    (h : NxQ D adr s tx u pts r Qn Qs) : Nx prog w A Er tx u Qn Qs s := by
  cases it with
  | lst => exact next_lst e S x hh hT h
  | tup => exact next_tup e x hh hT h
  | rng => exact next_rng e x hh hT h
  | enu => exact next_enu e S x hh hT h
end
end Mn
end
section
set_option maxRecDepth 100000
namespace Mn
open PySem PySem.W PyProof.Rows PySem.Calls SeqAt
section
variable {prog : Program} {w : World} {K : Frag} {B : Heap} {D : Ad} {P : Pg}
variable {E : Ev} {d : Nat} {A : Around} {Er : Value → Shared → Prop} {s : Shared} {adr adr' : List Addr} {H H' : MH} {env : Env} {ρ ρ' : Loc} {h h' : Heap}
noncomputable def GlbI (sc : Scope) (x : PySem.Expr) : MX → Prop
  | .glb f => ∃ z p, x = .Name z p ∧ trN sc z = some (.glb f)
  | _ => True
theorem glb_inv {m : Nat} {sc : Scope} {x : PySem.Expr} {e : MX} (tr : trE m sc x = some e) : GlbI sc x e := by
  cases m with
  | zero => cases tr
  | succ m =>
    cases trE_inv tr with
    | nam t =>
      obtain ⟨_, _, ⟨_, rfl⟩ | ⟨_, rfl⟩⟩ := trN_inv t
      · trivial
      · exact ⟨_, _, rfl, t⟩
    | _ => trivial
noncomputable def PI (D : Ad) (adr : List Addr) (s : Shared) (i : It) (Q : Value → Shared → Prop) : Prop :=
  ∀ h' t uu pts, (∀ b o, s.heap.get? b = some o → h'.get? b = some o) → ItR D adr h' i uu pts → (∀ a ∈ pts, s.heap.get? a = none) → Q uu ⟨h', s.gens, s.drawn, t, s.os⟩
theorem PI.of {i i' : It} {Q : Value → Shared → Prop} (e : some i' = some i) (h : PI D adr s i Q) : PI D adr s i' Q := by rw [Option.some.inj e]; exact h
theorem one_none : ∀ a ∈ [s.heap.objs.size], s.heap.get? a = none := fun a q => by rw [List.mem_singleton.mp q]; exact none_size
theorem iter_ok (S : St prog w B D adr H ρ env s.heap) {v : MV} {u : Value} {i : It} {Q : Value → Shared → Prop} (e : iterOf H v = some i) (x : VR D adr s.heap v u) (hQ : PI D adr s i Q) : wpAny (model prog w) A (pyIter u) Q Er s := by
  cases v with
  | tup vs =>
    obtain ⟨a, ws, rfl, ht, hv⟩ := x.inv
    refine wpAny_pyIter_tuple ht (hQ.of e _ _ _ _ keep_push ⟨_, a, 0, ws, rfl, rfl, ⟨_, Heap.get?_push_size _ rfl, rfl, rfl⟩, ?_, hv.mono (List.prefix_refl _) (.of_keep keep_push)⟩ one_none)
    obtain ⟨o, ho, r⟩ := ht
    exact ⟨o, keep_push _ _ ho, r⟩
  | ref k =>
    refine bnd e fun vs e1 e => ?_
    obtain ⟨k', l, ws, q, rfl, ha, hl, hv⟩ := listAt_ok S.sr e1 x
    obtain rfl : k = k' := congrArg refOf q
    exact wpAny_pyIter_list hl (hQ.of e _ _ _ _ keep_push ⟨_, l, rfl, rfl, ha, ⟨_, Heap.get?_push_size _ rfl, rfl, rfl⟩⟩ one_none)
  | _ => cases e
theorem near_ok {i : Int} (h : near i = true) : i.natAbs < 1073741824 := of_decide_eq_true h
theorem size_down (a b : Int) : Builtin.Range.rangeSize a b (-1) = ((a - b).toNat : Int) := by
  unfold Builtin.Range.rangeSize
  rw [if_neg (by decide)]
  split
  · rw [show (-(-1 : Int)) = 1 by rfl, Int.ediv_one]; omega
  · omega
theorem small_down {a b : Int} (ha : a.natAbs < 1073741824) (hb : b.natAbs < 1073741824) : Builtin.Range.small a b (-1) = true := by
  unfold Builtin.Range.small
  rw [size_down]
  unfold Builtin.Range.rangeFitsLong
  simp only [show ¬ ((-1 : Int) > 0) by decide, if_false, Bool.and_eq_true, Bool.or_eq_true, decide_eq_true_eq]
  refine ⟨⟨⟨⟨⟨by omega, by omega⟩, by omega, by omega⟩, by omega, by omega⟩, by omega, by omega⟩, .inr ⟨by omega, by omega⟩⟩
theorem x_callB (C : Cx prog w K B D P) (hx : SX prog w B D E d) {m : Nat} {z : Str} {p pos : Pos} {es : List PySem.Expr} {f : Nat} {b : BI} {ms : List MX} {vs : List MV} {Q : Value → Shared → Prop} (tz : trN env.scope z = some (.glb f)) (hb : P.glb f = some (.bi b)) (t2 : all? (trE m env.scope) es = some ms)
    (e2 : evs E ms ρ H = some (vs, H')) (R : Room A d) (S : St prog w B D adr H ρ env s.heap) (PQ : Po prog w B D adr env s H' ρ (fun adr' h' us => VRs D adr' h' vs us) fun us s' => wpAny (model prog w) A (call (biV b) us) Q Er s') :
    wpAny (model prog w) A (eval (.Call (.Name z p) es [] pos) env) Q Er s := by
  rw [call_eq rfl]
  obtain ⟨h1, h2, ⟨q, e⟩ | ⟨q, e⟩⟩ := trN_inv tz
  · cases e
  · refine wpAny_bind (x_glb C h1 h2 q (v := .bi b) (by cases e; exact hb) S fun adr1 h1 k1 u1 T1 S1 x1 => ?_)
    rw [show u1 = _ from VR.inv x1]
    exact callWith_of (P := fun h => KpAt (model prog w) h (biV b)) (by rw [(any_star t2).1]; rfl) (fun _ x => x) (x_args (s := ⟨h1, s.gens, s.drawn, k1, s.os⟩) hx t2 e2 R S1 fun adr2 h2 k2 us T2 S2 x2 =>
      ⟨keeper_ok (adr := adr2) C (C.X.keeps S2.sr.base) (.bi b _ rfl) rfl, PQ adr2 h2 k2 us (T1.trans T2) S2 x2⟩)
theorem ints_inv {h : Heap} {vs : List MV} {us : List Value} (x : VRs D adr h vs us) : ∀ {l : List Int}, intsOf vs = some l → (l = [] ∧ us = []) ∨ ∃ i l' t us', l = i :: l' ∧ us = .int i t :: us' ∧ ∃ vs', intsOf vs' = some l' ∧ VRs D adr h vs' us' := by
  cases x with
  | nil => exact fun e => .inl ⟨(Option.some.inj e).symm, rfl⟩
  | @cons v u vs us hv hs =>
    intro l e
    refine bnd e fun i e1 e => bnd e fun l' e2 e => ?_
    obtain ⟨t, rfl⟩ := asInt_vr e1 hv
    exact .inr ⟨i, l', t, us, (Option.some.inj e).symm, rfl, vs, e2, hs⟩
theorem range_fin {o : Obj} {x step : Int} {n : Nat} {left : Int} {Q : Value → Shared → Prop} (hQ : PI D adr s (.rng x step n) Q) (hl : left = n) (t : Nat) :
    Q (.ref (s.heap.push o).objs.size) ⟨(s.heap.push o).push { cls := .type "range_iterator", data := .fields #[rawInt x, rawInt left, rawInt step] }, s.gens, s.drawn, t, s.os⟩ := by
  subst hl
  exact hQ _ t _ [(s.heap.push o).objs.size] (fun b o e => keep_push _ _ (keep_push _ _ e)) ⟨_, rfl, rfl, Heap.get?_push_size _ rfl⟩ fun a q => by rw [List.mem_singleton.mp q, Heap.size_push]; exact Heap.get?_none_of_le (Nat.le_succ _)
theorem range_ok {as : List MV} {us : List Value} {i : It} {Q : Value → Shared → Prop} (e : rangeOf as = some i) (x : VRs D adr s.heap as us) (hQ : PI D adr s i Q) :
    wpAny (model prog w) A (call (biV .range) us) (fun r s' => wpAny (model prog w) A (pyIter r) Q Er s') Er s := by
  refine bnd e fun l e1 e => ?_
  rcases ints_inv x e1 with ⟨rfl, _⟩ | ⟨a, l1, t1, us1, rfl, rfl, vs1, e2, x2⟩
  · cases e
  rcases ints_inv x2 e2 with ⟨rfl, rfl⟩ | ⟨b, l2, t2, us2, rfl, rfl, vs2, e3, x3⟩
  · refine gd e fun hb e => ?_
    have hb := near_ok hb
    exact call_range_1 (wpAny_pyIter_range (IsRange.new ..) (small_one (by decide) (by decide) (by omega) (by omega)) (range_fin (hQ.of e) (by rw [rangeSize_one]; split <;> omega) _))
  rcases ints_inv x3 e3 with ⟨rfl, rfl⟩ | ⟨c, l3, t3, us3, rfl, rfl, vs3, e4, x4⟩
  · refine gd e fun hab e => ?_
    rw [Bool.and_eq_true] at hab
    have ha := near_ok hab.1
    have hb := near_ok hab.2
    exact call_range_2 (wpAny_pyIter_range (IsRange.new ..) (small_one (by omega) (by omega) (by omega) (by omega)) (range_fin (hQ.of e) (by rw [rangeSize_one]; split <;> omega) _))
  rcases ints_inv x4 e4 with ⟨rfl, rfl⟩ | ⟨_, l4, _, _, rfl, _⟩
  · refine gd e fun hab e => ?_
    rw [Bool.and_eq_true, Bool.and_eq_true] at hab
    have ha := near_ok hab.1.1
    have hb := near_ok hab.1.2
    rw [of_decide_eq_true hab.2]
    exact call_range_3 (by decide) (wpAny_pyIter_range (IsRange.new ..) (small_down ha hb) (range_fin (hQ.of e) (size_down a b) _)) (.inl (PyProof.noPylong_small (by decide)))
  · cases e
noncomputable def PJ (prog : Program) (w : World) (B : Heap) (D : Ad) (adr : List Addr) (env : Env) (ρ : Loc) (s : Shared) (H' : MH) (i : It) (Q : Value → Shared → Prop) : Prop :=
  ∀ adr' h' t u pts, Tn adr env s.heap adr' h' → St prog w B D adr' H' ρ env h' → ItR D adr' h' i u pts → (∀ a ∈ pts, s.heap.get? a = none ∧ a ∉ adr' ∧ a ∉ own env) → Q u ⟨h', s.gens, s.drawn, t, s.os⟩
theorem PJ.fin {i : It} {Q : Value → Shared → Prop} (hQ : PJ prog w B D adr env ρ s H' i Q) {h1 : Heap} {k1 : Nat} (T1 : Tn adr env s.heap adr' h1) (S1 : St prog w B D adr' H' ρ env h1) : PI D adr' ⟨h1, s.gens, s.drawn, k1, s.os⟩ i Q :=
  fun h' t uu pts k x hn => hQ adr' h' t uu pts (T1.trans (Tn.grown k)) (S1.grown k) x fun a ha => ⟨none_back (T1.kp.live a) (hn a ha), fun q => (by have := S1.sr.live a q; rw [hn a ha] at this; cases this), fun q => (by have := S1.lr.live S1.en a q; rw [hn a ha] at this; cases this)⟩
theorem PJ.of {i i' : It} {H0 : MH} {Q : Value → Shared → Prop} (e : some (i', H0) = some (i, H')) (h : PJ prog w B D adr env ρ s H' i Q) : PJ prog w B D adr env ρ s H0 i' Q := by
  cases e
  exact h
theorem evP_ok (hx : SX prog w B D E d) {m : Nat} {itx : PySem.Expr} {mi : MX} {i : It} {Q : Value → Shared → Prop} (tr : trE m env.scope itx = some mi) (e : evP E mi ρ H = some (i, H')) (R : Room A d) (S : St prog w B D adr H ρ env s.heap) (hQ : PJ prog w B D adr env ρ s H' i Q) :
    wpAny (model prog w) A (eval itx env) (fun x s₁ => wpAny (model prog w) A (pyIter x) Q Er s₁) Er s :=
  bnd2 e fun v H1 e1 e => bnd e fun i' e2 e => hx m itx mi A Er s adr H H1 env ρ v _ tr e1 R S fun adr1 h1 k1 u1 T1 S1 x1 =>
    iter_ok (s := ⟨h1, s.gens, s.drawn, k1, s.os⟩) S1 e2 x1 ((hQ.of e).fin T1 S1)
theorem kie2_inv {k : Nat} {o : MO} {q : It × MH} (e : kie2 k H o = some q) : ∃ vs, o = .list vs ∧ some (It.enu 0 k, H) = some q := by
  cases o with
  | list vs => exact ⟨vs, rfl, e⟩
  | _ => cases e
theorem evG_ok (C : Cx prog w K B D P) (hx : SX prog w B D E d) {m : Nat} {z : Str} {p pos : Pos} {es : List PySem.Expr} {g : Nat} {b : BI} {as : List MX} {i : It} {Q : Value → Shared → Prop} (tz : trN env.scope z = some (.glb g)) (hb : P.glb g = some (.bi b)) (t2 : all? (trE m env.scope) es = some as)
    (e : evG E as ρ H b = some (i, H')) (R : Room A d) (S : St prog w B D adr H ρ env s.heap) (hQ : PJ prog w B D adr env ρ s H' i Q) :
    wpAny (model prog w) A (eval (.Call (.Name z p) es [] pos) env) (fun x s₁ => wpAny (model prog w) A (pyIter x) Q Er s₁) Er s := by
  cases b with
  | range =>
    exact bnd2 e fun vs H1 e1 e => bnd e fun i' e2 e => x_callB C hx tz hb t2 e1 R S fun adr1 h1 k1 us T1 S1 x1 =>
      range_ok (s := ⟨h1, s.gens, s.drawn, k1, s.os⟩) e2 x1 ((hQ.of e).fin T1 S1)
  | enum =>
    refine bnd2 e fun vs H1 e1 e => ?_
    obtain ⟨v, rfl, e⟩ := one_inv (show one vs (fun v => (asRef v).bind fun k => (H1.get k).bind (kie2 k H1)) = some (i, H') from e)
    refine bnd e fun k e3 e => bnd e fun o e4 e => ?_
    obtain ⟨l, rfl, e⟩ := kie2_inv e
    obtain rfl := asRef_inv e3
    refine x_callB C hx tz hb t2 e1 R S fun adr1 h1 k1 us T1 S1 x1 => ?_
    obtain ⟨u, rfl, xu⟩ := x1.inv1
    obtain ⟨a, rfl, ha, O⟩ := SR.vref (s := ⟨h1, s.gens, s.drawn, k1, s.os⟩) S1.sr e4 xu
    obtain ⟨ws, ⟨n, hl⟩, hv, _⟩ := O.listE
    refine call_enumerate_1 (s := ⟨h1, s.gens, s.drawn, k1, s.os⟩) hl fun h' he hi hz hk => ?_
    exact wpAny_pyIter_enum he ((hQ.of e).fin (k1 := k1) T1 S1 h' k1 _ [h1.objs.size + 1, h1.objs.size] hk ⟨_, _, a, .none, rfl, rfl, ha, he, hi, Nat.succ_ne_self _⟩ fun b => mem2 (C := fun b => h1.get? b = none) (Heap.get?_none_of_le (Nat.le_succ _)) none_size)
  | _ => cases e
theorem evI_ok (C : Cx prog w K B D P) (hx : SX prog w B D E d) {m : Nat} {itx : PySem.Expr} {mi : MX} {i : It} {Q : Value → Shared → Prop} (tr : trE m env.scope itx = some mi) (e : evI P E mi ρ H = some (i, H')) (R : Room A d) (S : St prog w B D adr H ρ env s.heap) (hQ : PJ prog w B D adr env ρ s H' i Q) :
    wpAny (model prog w) A (eval itx env) (fun x s₁ => wpAny (model prog w) A (pyIter x) Q Er s₁) Er s := by
  cases m with
  | zero => cases tr
  | succ m =>
    have tr0 := tr
    cases trE_inv tr with
    | call _ t1 t2 =>
      refine bnd (f := fun g => (P.glb g).bind fun v => (asBi v).bind (evG E _ ρ H)) e fun g e1 e => bnd e fun v e2 e => bnd e fun b e3 e => ?_
      rw [asGlb_inv e1] at t1
      rw [asBi_inv e3] at e2
      obtain ⟨z, p, rfl, tz⟩ := glb_inv t1
      exact evG_ok C hx tz e2 t2 e R S hQ
    | nam t =>
      obtain ⟨_, _, ⟨_, rfl⟩ | ⟨_, rfl⟩⟩ := trN_inv t
      · exact evP_ok hx tr0 e R S hQ
      · exact evP_ok hx tr0 e R S hQ
    | _ => exact evP_ok hx tr0 e R S hQ
end
end Mn
end
section
set_option maxRecDepth 100000
namespace Mn
open PySem PySem.W PyProof.Rows PySem.Calls SeqAt
noncomputable def setAll : List Nat → List MV → Loc → Loc
  | x :: xs, v :: vs, ρ => setAll xs vs (zhi x v ρ)
  | _, _, ρ => ρ
theorem getL_all_out {y : Nat} : ∀ {xs : List Nat} {vs : List MV} {ρ : Loc}, y ∉ xs → zhh y (setAll xs vs ρ) = zhh y ρ
  | [], _, _, _ => by simp [setAll]
  | x :: xs, [], _, _ => by simp [setAll]
  | x :: xs, v :: vs, ρ, h => by
    show zhh y (setAll xs vs (zhi x v ρ)) = _
    rw [getL_all_out fun q => h (.tail _ q), getL_set, if_neg fun e => h (by rw [e]; exact .head _)]
theorem getL_all_in {y : Nat} {v : MV} : ∀ {xs : List Nat} {vs : List MV} {ρ : Loc}, xs.Nodup → (y, v) ∈ xs.zip vs → zhh y (setAll xs vs ρ) = some v
  | [], _, _, _, h => by cases h
  | x :: xs, [], _, _, h => by cases h
  | x :: xs, u :: vs, ρ, hn, h => by
    rw [List.nodup_cons] at hn
    show zhh y (setAll xs vs (zhi x u ρ)) = _
    rcases List.mem_cons.mp h with e | h
    · injection e with e1 e2
      subst e1 e2
      rw [getL_all_out hn.1, getL_set, if_pos rfl]
    · exact getL_all_in hn.2 h
theorem zip_rev {α β : Type} : ∀ {xs : List α} {vs : List β}, xs.length = vs.length → xs.reverse.zip vs.reverse = (xs.zip vs).reverse
  | [], [], _ => rfl
  | [], _ :: _, h => by cases h
  | _ :: _, [], h => by cases h
  | x :: xs, v :: vs, h => by
    have h' : xs.length = vs.length := by simpa using h
    rw [List.reverse_cons, List.reverse_cons, List.zip_append (by simpa using h'), zip_rev h']
    show _ = ((x, v) :: xs.zip vs).reverse
    rw [List.reverse_cons]
    rfl
theorem getL_all_rev {xs : List Nat} {vs : List MV} {ρ : Loc} (hn : xs.Nodup) (hl : xs.length = vs.length) (y : Nat) : zhh y (setAll xs vs ρ) = zhh y (setAll xs.reverse vs.reverse ρ) := by
  by_cases hy : y ∈ xs
  · obtain ⟨v, hv⟩ : ∃ v, (y, v) ∈ xs.zip vs := by
      obtain ⟨i, hi, e⟩ := List.getElem_of_mem hy
      refine ⟨vs[i]'(hl ▸ hi), ?_⟩
      rw [← e]
      have : (xs.zip vs)[i]'(by simp [hl]; omega) = (xs[i], vs[i]'(hl ▸ hi)) := List.getElem_zip
      rw [← this]
      exact List.getElem_mem _
    rw [getL_all_in hn hv, getL_all_in (List.pairwise_reverse.mpr (List.Pairwise.imp (fun h => Ne.symm h) hn))]
    rw [zip_rev hl]
    exact List.mem_reverse.mpr hv
  · rw [getL_all_out hy, getL_all_out fun q => hy (List.mem_reverse.mp q)]
section
variable {prog : Program} {w : World} {K : Frag} {B : Heap} {D : Ad} {P : Pg}
variable {E : Ev} {d : Nat} {A : Around} {Er : Value → Shared → Prop} {s : Shared} {adr adr' : List Addr} {H H' : MH} {env : Env} {ρ ρ' : Loc} {h h' : Heap}
theorem puts_nams : ∀ {names : List Nat} {vs : List MV} {ρ : Loc}, puts P E (names.map .nam) vs ρ H = some (ρ', H') → names.length = vs.length ∧ some (setAll names vs ρ, H) = some (ρ', H')
  | [], vs, ρ, e => by
    obtain ⟨rfl, e⟩ := puts_nil e
    exact ⟨rfl, e⟩
  | n :: names, vs, ρ, e => by
    obtain ⟨v, vs', ρ1, H1, rfl, e1, e⟩ := puts_cons e
    rw [put] at e1
    have q := Option.some.inj e1
    obtain rfl : zhi n v ρ = ρ1 := congrArg Prod.fst q
    obtain rfl : H = H1 := congrArg Prod.snd q
    obtain ⟨a, b⟩ := puts_nams e
    exact ⟨congrArg Nat.succ a, b⟩
theorem stores_ok {names : List Str} : ∀ {vs : List MV} {us : List Value} {s : Shared} {adr : List Addr} {ρ : Loc} {Q : Unit → Shared → Prop}, (∀ n ∈ names, okS n ∧ env.kindOf n = some .local) → names.length = vs.length → St prog w B D adr H ρ env s.heap → VRs D adr s.heap vs us →
    Po prog w B D adr env s H (setAll (names.map code) vs ρ) (fun _ _ _ => True) Q → wpAny (model prog w) A (assignInOrder (names.map fun n => bindName env n) us) Q Er s := by
  induction names with
  | nil =>
    intro vs us s adr ρ Q _ hl S xs PQ
    obtain rfl := List.length_eq_zero_iff.mp hl.symm
    rw [show us = [] from xs.inv]
    exact wpAny_assignInOrder_none (PQ.here S trivial s.toks)
  | cons n names ih =>
    intro vs us s adr ρ Q hn hl S xs PQ
    cases vs with
    | nil => cases hl
    | cons v vs =>
      obtain ⟨uv, us, rfl, xv, xs⟩ := xs.inv
      obtain ⟨hn1, hn2⟩ := hn n (.head _)
      exact wpAny_assignInOrder_more (wpAny_bindName (store_ok hn1 (.inl hn2) S xv fun adr1 h1 k1 _ T1 S1 _ => ih (s := ⟨h1, s.gens, s.drawn, k1, s.os⟩) (fun x hx => hn x (.tail _ hx)) (Nat.succ.inj hl) S1 (S.vts T1 xs) (PQ.after T1 k1)))
theorem comp_no {e : PySem.Expr} (h : isComp e = false) (t : Option PySem.Expr) (line : Nat) (env : Env) : swapsWith e t line env = pure false := by
  cases e with
  | ListComp => cases h
  | SetComp => cases h
  | DictComp => cases h
  | _ => rfl
theorem sole_no {e t : PySem.Expr} (h : isComp e = false) (line : Nat) (env : Env) : swapsWithSole [t] e line env = pure false := by
  cases e with
  | ListComp => cases h
  | SetComp => cases h
  | DictComp => cases h
  | _ => rfl
theorem swp_ok {t value : PySem.Expr} {r : Option (List Str)} (h : swp t value env.scope = some r) : swappedStores [t] value env = pure r := by
  have e : swappedStores [t] value env = swappedStores [t] value { scope := env.scope, locals := 0, globals := 0, cells := [] } := by kernel_rfl
  rw [e]
  unfold swp at h
  split at h
  · rename_i q
    rw [q, Option.some.inj h]; rfl
  · cases h
theorem St.same {ρ₂ : Loc} (S : St prog w B D adr H ρ env h) (e : ∀ y, zhh y ρ₂ = zhh y ρ) : St prog w B D adr H ρ₂ env h := ⟨S.sr, S.lr.same e, S.en⟩
theorem VRs.rev {l : List MV} {r : List Value} (x : VRs D adr h l r) : VRs D adr h l.reverse r.reverse :=
  x.ind (motive := fun l r => VRs D adr h l.reverse r.reverse) .nil fun v u vs us hv _ ih => by
    rw [List.reverse_cons, List.reverse_cons]
    exact ih.append (.cons hv .nil)
theorem asg_head {m : Nat} {t e : PySem.Expr} {pos : Pos} {me : MX} {sw : Option (List Str)} {v : MV} {H1 : MH} {Q : Flow → Shared → Prop} (hx : SX prog w B D E d) (hc : isComp e = false) (hsw : swp t e env.scope = some sw) (t2 : trE m env.scope e = some me) (e1 : E.x me ρ H = some (v, H1)) (R : Room A d) (S : St prog w B D adr H ρ env s.heap)
    (k : ∀ adr1 h1 k1 u1, Tn adr env s.heap adr1 h1 → St prog w B D adr1 H1 ρ env h1 → VR D adr1 h1 v u1 → wpAny (model prog w) A (assignStores env u1 sw ((assignEach [t] env).map (·.2))) Q Er ⟨h1, s.gens, s.drawn, k1, s.os⟩) :
    wpAny (model prog w) A (exec (.Assign [t] e pos) env) Q Er s := by
  rw [exec_Assign_arm]
  refine wpAny_bind (wpAny_standAt ?_)
  rw [sole_no hc]
  refine wpAny_bind (wpAny_pure ?_)
  rw [if_neg (by decide)]
  refine wpAny_bind (hx m e me A Er s adr H H1 env ρ v _ t2 e1 R S fun adr1 h1 k1 u1 T1 S1 x1 => ?_)
  rw [swp_ok hsw]
  exact wpAny_bind (wpAny_pure (k adr1 h1 k1 u1 T1 S1 x1))
theorem s_asg (C : Cx prog w K B D P) (hx : SX prog w B D E d) {m : Nat} {t e : PySem.Expr} {pos : Pos} {mt : MT} {me : MX} {Q : Flow → Shared → Prop} (hc : isComp e = false) (hsw : swp t e env.scope = some none) (t1 : trT m env.scope t = some mt) (t2 : trE m env.scope e = some me)
    {o : Out} (ev : ((E.x me ρ H).bind fun u => (put P E mt u.1 ρ u.2).bind fun r => some (Out.nxt, r.1, r.2)) = some (o, ρ', H')) (R : Room A d) (S : St prog w B D adr H ρ env s.heap) (PQ : Po prog w B D adr env s H' ρ' (fun adr' h' f => OutR D adr' h' o f) Q) :
    wpAny (model prog w) A (exec (.Assign [t] e pos) env) Q Er s := by
  refine bnd2 ev fun v H1 e1 ev => bnd2 ev fun ρ1 H2 e2 ev => asg_head hx hc hsw t2 e1 R S fun adr1 h1 k1 u1 T1 S1 x1 => ?_
  have he : (assignEach [t] env).map (·.2) = [assign t env] := by rw [each_ok t1]; rfl
  rw [he]
  show wpAny (model prog w) A (do assign t env u1; pure Flow.next) Q Er _
  exact wpAny_bind (put_ok C hx R m (s := ⟨h1, s.gens, s.drawn, k1, s.os⟩) t1 e2 S1 x1 fun adr2 h2 k2 _ T2 S2 _ => wpAny_pure ((PQ.ofS ev) adr2 h2 k2 _ (T1.trans T2) S2 rfl))
theorem s_asgN (hx : SX prog w B D E d) {m : Nat} {t e : PySem.Expr} {pos : Pos} {names : List Str} {me : MX} {Q : Flow → Shared → Prop} (hc : isComp e = false) (hsw : swp t e env.scope = some (some names)) (hok : swpOk env.scope names = true) (t2 : trE m env.scope e = some me)
    {o : Out} (ev : ((E.x me ρ H).bind fun u => (put P E (.tup ((names.map code).map .nam)) u.1 ρ u.2).bind fun r => some (Out.nxt, r.1, r.2)) = some (o, ρ', H')) (R : Room A d) (S : St prog w B D adr H ρ env s.heap) (PQ : Po prog w B D adr env s H' ρ' (fun adr' h' f => OutR D adr' h' o f) Q) :
    wpAny (model prog w) A (exec (.Assign [t] e pos) env) Q Er s := by
  refine bnd2 ev fun v H1 e1 ev => bnd2 ev fun ρ1 H2 e2 ev => asg_head hx hc hsw t2 e1 R S fun adr1 h1 k1 u1 T1 S1 x1 => ?_
  rw [put] at e2
  refine bnd e2 fun vals e3 e2 => ?_
  obtain ⟨hlen, e2⟩ := puts_nams e2
  rw [List.length_map] at hlen
  obtain ⟨a, ws, rfl, htp, hv⟩ := ((asTup_inv e3 ▸ x1 : VR D adr1 h1 (.tup vals) u1)).inv
  rw [swpOk, Bool.and_eq_true, List.all_eq_true] at hok
  have q2 : ∀ n ∈ names, okS n ∧ env.kindOf n = some .local := fun n hn => by
    have q := Bool.and_eq_true_iff.mp (hok.1 n hn)
    exact ⟨(okN_low (fun z => by rw [q.1] at z; cases z)).1, eq_of_beq q.2⟩
  show wpAny (model prog w) A (do
    rule "assign.swapped-stores"
    let items ← unpackItems (.ref a) names.length none
    assignInOrder (names.reverse.map fun n => bindName env n) items.reverse
    pure Flow.next) Q Er _
  rw [show names.length = ws.size from hlen.trans (hv.length.trans Array.length_toList)]
  refine wpAny_bind (wpAny_rule (wpAny_bind (wpAny_unpackItems_tuple R.hh htp fun h' hs' => ?_)))
  have kk : ∀ b o, h1.get? b = some o → h'.get? b = some o := fun b o e => hs' b o (Nat.ne_of_lt (Heap.lt_size e)) e
  have q := Option.some.inj e2
  obtain rfl : H1 = H2 := congrArg Prod.snd q
  obtain rfl : setAll (names.map code) vals ρ = ρ1 := congrArg Prod.fst q
  exact wpAny_bind (stores_ok (s := ⟨h', s.gens, s.drawn, k1, s.os⟩) (vs := vals.reverse) (fun n hn => q2 n (List.mem_reverse.mp hn)) (by rw [List.length_reverse, List.length_reverse, hlen]) (S1.grown kk) ((hv.mono (List.prefix_refl _) (.of_keep kk)).rev) fun adr2 h2 k2 _ T2 S2 _ =>
    wpAny_pure ((PQ.ofS ev) adr2 h2 k2 _ (T1.trans ((Tn.grown kk).trans T2)) (S2.same fun y => by rw [List.map_reverse]; exact getL_all_rev (of_decide_eq_true hok.2) (by rw [List.length_map, hlen]) y) rfl))
end
end Mn
end
section
set_option maxRecDepth 100000
namespace Mn
open PySem PySem.W PyProof.Rows PySem.Calls SeqAt
section
variable {prog : Program} {w : World} {K : Frag} {B : Heap} {D : Ad} {P : Pg}
variable {E : Ev} {d : Nat} {A : Around} {Er : Value → Shared → Prop} {s : Shared} {adr adr' : List Addr} {H H' : MH} {env : Env} {ρ ρ' : Loc} {h h' : Heap}
noncomputable def Away (adr : List Addr) (env : Env) (pts : List Addr) : Prop := ∀ a ∈ pts, a ∉ adr ∧ a ∉ own env
theorem ItR.turn {it : It} {u : Value} {pts : List Addr} (x : ItR D adr h it u pts) (S : St prog w B D adr H ρ env h) (T : Tn adr env h adr' h') (hf : Away adr env pts) : ItR D adr' h' it u pts ∧ Away adr' env pts :=
  ⟨x.mono T.pre (S.soft T.kp) fun a q o e => T.kp.keep a o e (hf a q).1 (hf a q).2, fun a q => ⟨fun z => (T.new a z).elim (hf a q).1 fun z => (by have := x.live a q; rw [z] at this; cases this), (hf a q).2⟩⟩
theorem Tn.aside {adr₀ : List Addr} {h₀ : Heap} {pts : List Addr} (T : Tn adr₀ env h₀ adr h) (k : ∀ b o, b ∉ pts → h.get? b = some o → h'.get? b = some o) (hn : ∀ a ∈ pts, h₀.get? a = none) : Tn adr₀ env h₀ adr h' := by
  have kk : ∀ b, (h₀.get? b).isSome = true → b ∉ pts := fun b e q => by rw [hn b q] at e; cases e
  refine ⟨T.pre, T.new, ⟨fun b o e n m => k b o (kk b (some_of e)) (T.kp.keep b o e n m), fun b e => ?_⟩⟩
  obtain ⟨o, ho⟩ := Option.isSome_iff_exists.mp (T.kp.live b e)
  exact some_of (k b o (kk b e) ho)
variable (prog w B D P) in
structure Up (N : Nat) (d : Nat) : Prop where
  x : ∀ n, n ≤ N → SX prog w B D (ev P n d) d
  t : ∀ n, n ≤ N → ST prog w B D (ev P n d) d
  s : ∀ n, n ≤ N → SS prog w B D (ev P n d) d
structure LpI (prog : Program) (w : World) (B : Heap) (D : Ad) (P : Pg) (d : Nat) (mt : MT) (mb : List MS) (tx : PySem.Expr) (u : Value) (pts : List Addr) (s₀ : Shared) (adr₀ : List Addr) (env : Env) (o : Out) (ρ' : Loc) (H' : MH) (n : Nat)
    (adr : List Addr) (H : MH) (ρ : Loc) (h : Heap) (it : It) : Prop where
  e : (ev P n d).l mt it mb ρ H = some (o, ρ', H')
  T : Tn adr₀ env s₀.heap adr h
  S : St prog w B D adr H ρ env h
  x : ItR D adr h it u pts
  f : Away adr env pts
  t : tupE tx it = true
theorem l_none {t : MT} {b : List MS} {n : Nat} {it : It} (e1 : it.next H = some none) : (ev P (n + 1) d).l t it b ρ H = some (.nxt, ρ, H) := by
  show (it.next H).bind _ = _
  rw [e1]; rfl
theorem l_some {t : MT} {b : List MS} {n : Nat} {it : It} {v : MV} {it' : It} (e1 : it.next H = some (some (v, it'))) : (ev P (n + 1) d).l t it b ρ H = (put P (ev P n d) t v ρ H).bind fun q => (stmts (ev P n d) b q.1 q.2).bind (klo3 (ev P n d) t it' b) := by
  show (it.next H).bind _ = _
  rw [e1]; rfl
theorem for_loop (C : Cx prog w K B D P) {N : Nat} (U : Up prog w B D P N d) (R : Room A d) {m : Nat} {tx : PySem.Expr} {body : List PySem.Stmt} {mt : MT} {mb : List MS} {Q : Flow → Shared → Prop} {Rr : Result → Shared → Prop} (t1 : trT m env.scope tx = some mt) (t2 : all? (trS m env.scope) body = some mb) {s₀ : Shared} {adr₀ : List Addr} {o : Out}
    {u : Value} {pts : List Addr} {it : It} (hnew : ∀ a ∈ pts, s₀.heap.get? a = none) (hb : ∀ a ∈ pts, B.get? a = none) (PQ : Po prog w B D adr₀ env s₀ H' ρ' (fun adr' h' f => OutR D adr' h' o f) Q) (hQ : ∀ f s', Q f s' → Rr (.ok f) s')
    {t : Nat} (I : LpI prog w B D P d mt mb tx u pts s₀ adr₀ env o ρ' H' N adr H ρ h it) :
    codeAny (model prog w) A (.forLoop tx u body [] env) Rr ⟨h, s₀.gens, s₀.drawn, t, s₀.os⟩ := by
  refine codeAny_forLoop_any (fun n sx => n ≤ N ∧ ∃ adr1 H1 ρ1 h1 t1 it1, sx = ⟨h1, s₀.gens, s₀.drawn, t1, s₀.os⟩ ∧ LpI prog w B D P d mt mb tx u pts s₀ adr₀ env o ρ' H' n adr1 H1 ρ1 h1 it1)
    (fun n sx hI => ?_) N ⟨Nat.le_refl _, adr, H, ρ, h, t, it, rfl, I⟩
  obtain ⟨hnN, adr1, H1, ρ1, h1, k1, it1, rfl, I⟩ := hI
  cases n with
  | zero => cases I.e
  | succ n =>
    have hn : n ≤ N := Nat.le_of_succ_le hnN
    have side : ∀ {h2 : Heap}, (∀ b o, b ∉ pts → h1.get? b = some o → h2.get? b = some o) → St prog w B D adr1 H1 ρ1 env h2 ∧ Tn adr₀ env s₀.heap adr1 h2 := fun k =>
      ⟨I.S.aside I.x.hard k (fun a q => (I.f a q).1) (fun a q => (I.f a q).2) hb, I.T.aside k hnew⟩
    cases e1 : it1.next H1 with
    | none => have e := I.e; rw [show (ev P (n + 1) d).l mt it1 mb ρ1 H1 = none from congrArg (Option.bind · _) e1] at e; cases e
    | some r =>
      refine next_ok (s := ⟨h1, s₀.gens, s₀.drawn, k1, s₀.os⟩) (Qn := fun s₁ => wpAny (model prog w) A (execs [] env) (fun f s₃ => Rr (.ok f) s₃) (notedBy (model prog w) A env fun e s' => Rr (.error e) s') s₁) e1 I.S.sr I.x R.hh I.t ?_
      cases r with
      | none =>
        intro h2 k
        obtain ⟨S2, T2⟩ := side k
        exact wpAny_execs_nil (hQ _ _ ((PQ.ofS ((l_none e1).symm.trans I.e)) adr1 h2 k1 _ T2 S2 rfl))
      | some p =>
        intro h2 t2 uv k x2 xv hT2
        obtain ⟨S2, T2⟩ := side k
        have e := I.e
        rw [l_some (v := p.1) (it' := p.2) e1] at e
        refine bnd2 e fun ρ2 H2 e2 e => bnd3 e fun o3 ρ3 H3 e3 e => ?_
        refine put_ok C (U.x n hn) R m (s := ⟨h2, s₀.gens, s₀.drawn, t2, s₀.os⟩) t1 e2 S2 xv fun adr3 h3 k3 _ T3 S3 _ => ?_
        refine x_stmts (U.s n hn) (s := ⟨h3, s₀.gens, s₀.drawn, k3, s₀.os⟩) ‹all? (trS m env.scope) body = some mb› e3 R S3 fun adr4 h4 k4 f T4 S4 x4 => ?_
        obtain ⟨x3, hf3⟩ := x2.turn S2 T3 I.f
        obtain ⟨x4', hf4⟩ := x3.turn S3 T4 hf3
        have T5 := (T2.trans T3).trans T4
        rcases kst_inv e with ⟨rfl, e⟩ | ⟨v, rfl, e⟩
        · rw [show f = .next from x4]
          exact ⟨n, Nat.lt_succ_self _, hn, adr4, H3, ρ3, h4, k4, p.2, rfl, e, T5, S4, x4', hf4, hT2⟩
        · obtain ⟨uu, rfl, xu⟩ := x4
          exact hQ _ _ ((PQ.ofS e) adr4 h4 k4 _ T5 S4 ⟨uu, rfl, xu⟩)
theorem set_not {m : Nat} {sc : Scope} {e : PySem.Expr} {x : MX} (h : trE m sc e = some x) (env : Env) (v : Value) : foldedSetIterable e env v = pure v := by
  cases e with
  | Set => cases m <;> cases h
  | _ => rfl
theorem s_for (C : Cx prog w K B D P) {N : Nat} (U : Up prog w B D P N d) {m : Nat} {tx itx : PySem.Expr} {body : List PySem.Stmt} {pos : Pos} {mt : MT} {mi : MX} {mb : List MS} {Q : Flow → Shared → Prop} {o : Out} (t1 : trT m env.scope tx = some mt) (t2 : trE m env.scope itx = some mi) (t3 : all? (trS m env.scope) body = some mb)
    (e : ((evI P (ev P N d) mi ρ H).bind fun i => if tupOk mt i.1 = true then (ev P N d).l mt i.1 mb ρ i.2 else none) = some (o, ρ', H')) (R : Room A d) (S : St prog w B D adr H ρ env s.heap) (PQ : Po prog w B D adr env s H' ρ' (fun adr' h' f => OutR D adr' h' o f) Q) :
    wpAny (model prog w) A (exec (.For tx itx body [] pos) env) Q Er s :=
  bnd2 e fun i H1 e1 e => gd e fun ht e => wpAny_For (evI_ok C (U.x N (Nat.le_refl _)) t2 e1 R S fun adr1 h1 k1 u pts T1 S1 x1 hf =>
    for_loop C U R t1 t3 (fun a q => (hf a q).1) (fun a q => base_none S.sr (hf a q).1) PQ (fun _ _ q => q) ⟨e, T1, S1, x1, fun a q => (hf a q).2, tupE_ok t1 ht⟩) (set_not t2 env)
theorem s_aug {m : Nat} {x : Str} {op : Operator} {e : PySem.Expr} {px pos : Pos} {o : Op} {me : MX} {Q : Flow → Shared → Prop} (hx : SX prog w B D E d) (hlow : okS x) (hl : env.scope.names.lookup x = some .local) (t1 : trOp op = some o) (t2 : trE m env.scope e = some me) {oo : Out}
    (ev : ((zhh (code x) ρ).bind fun a => (E.x me ρ H).bind (kau2 (code x) o a ρ)) = some (oo, ρ', H')) (R : Room A d) (S : St prog w B D adr H ρ env s.heap) (PQ : Po prog w B D adr env s H' ρ' (fun adr' h' f => OutR D adr' h' oo f) Q) :
    wpAny (model prog w) A (exec (.AugAssign (.Name x px) op e pos) env) Q Er s := by
  refine bnd ev fun a e1 ev => bnd2 ev fun v H1 e2 ev => bnd ev fun i e3 ev => bnd ev fun j e4 ev => gd ev fun ho ev => ?_
  obtain ⟨mm, hns, hval⟩ := S.lr.ns
  obtain ⟨u, hu, xu⟩ := hval x a hlow e1 hl
  obtain ⟨t, rfl⟩ := asInt_vr e3 xu
  obtain rfl := op_add (ho ▸ t1)
  refine wpAny_AugAssign_Name (wpAny_loadName_local S.en.kind hl hns hu (hx m e me A Er s adr H H1 env ρ v _ t2 e2 R S fun adr1 h1 k1 u1 T1 S1 x1 => ?_))
  obtain ⟨t', rfl⟩ := asInt_vr e4 x1
  exact PyProof.Rows.iadd_int (s := ⟨h1, s.gens, s.drawn, k1, s.os⟩) (store_ok (s := ⟨h1, s.gens, s.drawn, k1 + 1, s.os⟩) hlow (.inl hl) S1 (.int _ _) fun adr2 h2 k2 _ T2 S2 _ => (PQ.ofS ev) adr2 h2 k2 _ (T1.trans T2) S2 rfl)
theorem s_while {N : Nat} (U : Up prog w B D P N d) {m : Nat} {c : PySem.Expr} {body : List PySem.Stmt} {pos : Pos} {mc : MX} {mb : List MS} {Q : Flow → Shared → Prop} {o : Out} (t1 : trE m env.scope c = some mc) (t3 : all? (trS m env.scope) body = some mb)
    (e : (ev P (N + 1) d).s (.whl mc mb) ρ H = some (o, ρ', H')) (R : Room A d) (S : St prog w B D adr H ρ env s.heap) (PQ : Po prog w B D adr env s H' ρ' (fun adr' h' f => OutR D adr' h' o f) Q) :
    wpAny (model prog w) A (exec (.While c body [] pos) env) Q Er s := by
  refine wpAny_While ?_
  refine codeAny_whileLoop (fun n sx => n ≤ N + 1 ∧ ∃ adr1 H1 ρ1 h1 t1, sx = ⟨h1, s.gens, s.drawn, t1, s.os⟩ ∧ (ev P n d).s (.whl mc mb) ρ1 H1 = some (o, ρ', H') ∧ Tn adr env s.heap adr1 h1 ∧ St prog w B D adr1 H1 ρ1 env h1)
    (fun n sx hI => ?_) (N + 1) ⟨Nat.le_refl _, adr, H, ρ, s.heap, s.toks, rfl, e, .refl .., S⟩
  obtain ⟨hnN, adr1, H1, ρ1, h1, k1, rfl, e, T1, S1⟩ := hI
  cases n with
  | zero => cases e
  | succ n =>
    have hn : n ≤ N := Nat.le_of_succ_le_succ hnN
    have e : (((ev P n d).t mc ρ1 H1).bind fun u => match u.1 with
      | true => (stmts (ev P n d) mb ρ1 u.2).bind (kst ((ev P n d).s (.whl mc mb)))
      | false => some (Out.nxt, ρ1, u.2)) = some (o, ρ', H') := e
    refine bnd2 e fun b H2 e1 e => U.t n hn m c mc A _ ⟨h1, s.gens, s.drawn, k1, s.os⟩ adr1 H1 H2 env ρ1 b _ t1 e1 R S1 fun adr2 h2 k2 b2 T2 S2 x2 => ?_
    rw [show b2 = b from x2]
    cases b with
    | false => exact wpAny_execs_nil ((PQ.ofS e) adr2 h2 k2 _ (T1.trans T2) S2 rfl)
    | true =>
      refine bnd3 e fun o3 ρ3 H3 e3 e => x_stmts (U.s n hn) (s := ⟨h2, s.gens, s.drawn, k2, s.os⟩) t3 e3 R S2 fun adr4 h4 k4 f T4 S4 x4 => ?_
      have T5 := (T1.trans T2).trans T4
      rcases kst_inv e with ⟨rfl, e⟩ | ⟨v, rfl, e⟩
      · rw [show f = .next from x4]
        exact ⟨n, Nat.lt_succ_self _, Nat.le_succ_of_le hn, adr4, H3, ρ3, h4, k4, rfl, e, T5, S4⟩
      · obtain ⟨uu, rfl, xu⟩ := x4
        exact (PQ.ofS e) adr4 h4 k4 _ T5 S4 ⟨uu, rfl, xu⟩
end
end Mn
end
section
set_option maxRecDepth 100000
namespace Mn
open PySem PySem.W PyProof.Rows PySem.Calls SeqAt
noncomputable def clo (env : Env) : List (Str × NameKind) → List (Str × Addr) → List (Str × Addr)
  | [], acc => acc
  | (n, k) :: r, acc => if k == .free then clo env r ((n, (env.cells.lookup n).getD 0) :: acc) else clo env r acc
theorem clo_loop {env : Env} (f : Str × NameKind → List (Str × Addr) → Sem (ForInStep (List (Str × Addr)))) (hf : ∀ n k acc, f (n, k) acc = if k == .free then (do let c ← cellOf env n; pure (.yield ((n, c) :: acc))) else pure (.yield acc)) :
    ∀ (names : List (Str × NameKind)) (acc : List (Str × Addr)), (∀ p ∈ names, p.2 = .free → ∃ c, env.cells.lookup p.1 = some c) → (forIn names acc f : Sem (List (Str × Addr))) = pure (clo env names acc)
  | [], acc, _ => by rw [List.forIn_nil]; rfl
  | (n, k) :: r, acc, h => by
    rw [List.forIn_cons, hf]
    unfold clo
    have ih := clo_loop f hf r
    by_cases q : (k == NameKind.free) = true
    · rw [if_pos q, if_pos q]
      obtain ⟨c, hc⟩ := h (n, k) (.head _) (eq_of_beq q)
      have hc : env.cells.lookup n = some c := hc
      have e : cellOf env n = pure c := by unfold cellOf; rw [hc]
      rw [e, hc]
      exact ih ((n, c) :: acc) fun p hp => h p (.tail _ hp)
    · rw [if_neg q, if_neg q]
      exact ih acc fun p hp => h p (.tail _ hp)
theorem closure_ok {env : Env} {sc : Scope} (h : ∀ p ∈ sc.names, p.2 = .free → ∃ c, env.cells.lookup p.1 = some c) : closureFor sc env = pure (clo env sc.names []) := by
  unfold closureFor
  have := clo_loop (env := env) (fun x r => match x with | (name, kind) => if kind == .free then (do let c ← cellOf env name; pure (.yield ((name, c) :: r))) else pure (.yield r)) (fun n k acc => rfl) sc.names [] h
  rw [show (do
        let mut cs := []
        for (name, kind) in sc.names do
          if kind == .free then cs := (name, ← cellOf env name) :: cs
        return cs : Sem (List (Str × Addr))) = ((forIn sc.names [] (fun x r => match x with | (name, kind) => if kind == .free then (do let c ← cellOf env name; pure (ForInStep.yield ((name, c) :: r))) else pure (ForInStep.yield r)) : Sem (List (Str × Addr))) >>= fun r => pure r) from rfl, this]; rfl
theorem clo_fst {env : Env} : ∀ (names : List (Str × NameKind)) (acc : List (Str × Addr)), (clo env names acc).map (·.1) = ((names.filter fun p => p.2 == .free).map (·.1)).reverse ++ acc.map (·.1)
  | [], acc => rfl
  | (nm, kd) :: r, acc => by
    unfold clo
    rw [List.filter_cons]
    by_cases q : (kd == NameKind.free) = true
    · rw [if_pos q, if_pos q, clo_fst r, List.map_cons, List.map_cons, List.reverse_cons, List.append_assoc]; rfl
    · rw [if_neg q, if_neg q, clo_fst r]
theorem clo_mem {env : Env} {n : Str} {c : Addr} : ∀ {names : List (Str × NameKind)} {acc : List (Str × Addr)}, (n, c) ∈ clo env names acc → (n, c) ∈ acc ∨ ((n, NameKind.free) ∈ names ∧ c = (env.cells.lookup n).getD 0)
  | [], _, h => .inl h
  | (m, k) :: r, acc, h => by
    unfold clo at h
    by_cases q : (k == NameKind.free) = true
    · rw [if_pos q] at h
      refine (clo_mem h).elim (fun h => (List.mem_cons.mp h).elim (fun h => .inr ?_) .inl) fun h => .inr ⟨.tail _ h.1, h.2⟩
      rw [show n = m from congrArg Prod.fst h, show c = _ from congrArg Prod.snd h, eq_of_beq q]
      exact ⟨.head _, rfl⟩
    · rw [if_neg q] at h
      exact (clo_mem h).elim .inl fun h => .inr ⟨.tail _ h.1, h.2⟩
theorem look_mem {α : Type} {x : Str} {u : α} : ∀ {l : List (Str × α)}, (l.map (·.1)).Nodup → (x, u) ∈ l → l.lookup x = some u
  | [], _, h => nomatch h
  | (k, v) :: l, hn, h => by
    rw [List.map_cons, List.nodup_cons] at hn
    rw [List.lookup_cons]
    rcases List.mem_cons.mp h with e | h
    · rw [← show x = k from congrArg Prod.fst e, ← show u = v from congrArg Prod.snd e, beq_self_eq_true]
    · rw [show (x == k) = false from beq_false_of_ne fun q => hn.1 (q ▸ List.mem_map.mpr ⟨(x, u), h, rfl⟩)]
      exact look_mem hn.2 h
theorem relab_look {sc : Scope} (hk : sc.kind = .function) {x : Str} : ∀ {names : List (Str × NameKind)}, (∀ p ∈ names, p.2 = .free → sc.names.lookup p.1 = some .cell) →
    (names.map fun (n, k) => if (k == .free && sc.kind == .function && sc.names.lookup n == some .cell) then (n, NameKind.cell) else (n, k)).lookup x = (names.lookup x).map fun k => if k = .free then .cell else k
  | [], _ => rfl
  | (n, k) :: r, h => by
    rw [List.map_cons, List.lookup_cons]
    have ih := relab_look hk (x := x) fun p hp => h p (.tail _ hp)
    by_cases q : k = .free
    · have e : (k == .free && sc.kind == .function && sc.names.lookup n == some .cell) = true := by
        rw [show sc.names.lookup n = some .cell from h _ (.head _) q, hk, q]; rfl
      dsimp only
      rw [if_pos e, List.lookup_cons, ih]
      cases x == n with
      | true => rw [q]; rfl
      | false => rfl
    · have e : ¬ (k == .free && sc.kind == .function && sc.names.lookup n == some .cell) = true := fun z => q (eq_of_beq (Bool.and_eq_true_iff.mp (Bool.and_eq_true_iff.mp z).1).1)
      dsimp only
      rw [if_neg e, List.lookup_cons, ih]
      cases x == n with
      | true => exact congrArg some (if_neg q).symm
      | false => rfl
section
variable {prog : Program} {w : World} {K : Frag} {B : Heap} {D : Ad} {P : Pg}
variable {E : Ev} {d : Nat} {A : Around} {Er : Value → Shared → Prop} {s : Shared} {adr adr' : List Addr} {H H' : MH} {env : Env} {ρ ρ' : Loc} {h h' : Heap} {sc' : Scope}
noncomputable abbrev cenv (sc' : Scope) (C : Addr) (env : Env) : Env := compEnvC sc' (clo env sc'.names []) C env
theorem ck_of (hO : OkComp sc' env.scope) {C : Addr} {x : Str} {k : NameKind} (e : (cenv sc' C env).kindOf x = some k) : ∃ k', sc'.names.lookup x = some k' ∧ (k' ≠ .cell ∧ ((k' = .free ∧ k = .cell) ∨ k' = k)) := by
  have e : (relab sc' env.scope).names.lookup x = some k := e
  rw [show (relab sc' env.scope).names.lookup x = _ from relab_look hO.2.1 fun p hp => (hO.2.2.2 p hp).2.2] at e
  obtain ⟨k', e1, e2⟩ := Option.map_eq_some_iff.mp e
  refine ⟨k', e1, (hO.2.2.2 _ (mem_of_lookup e1)).2.1, ?_⟩
  by_cases q : k' = .free
  · rw [if_pos q] at e2; exact .inl ⟨q, e2.symm⟩
  · rw [if_neg q] at e2; exact .inr e2
theorem ck_cell (hO : OkComp sc' env.scope) {C : Addr} {x : Str} (e : (cenv sc' C env).kindOf x = some .cell) : (x, NameKind.free) ∈ sc'.names := by
  obtain ⟨k, e1, e2, ⟨rfl, _⟩ | rfl⟩ := ck_of hO e
  · exact mem_of_lookup e1
  · exact absurd rfl e2
theorem ck_local (hO : OkComp sc' env.scope) {C : Addr} {x : Str} (e : (cenv sc' C env).kindOf x = some .local) : (x, NameKind.local) ∈ sc'.names := by
  obtain ⟨k, e1, e2, ⟨_, q⟩ | rfl⟩ := ck_of hO e
  · cases q
  · exact mem_of_lookup e1
theorem ck_free (hO : OkComp sc' env.scope) {C : Addr} {x : Str} (e : (x, NameKind.free) ∈ sc'.names) : (cenv sc' C env).kindOf x = some .cell := by
  show (relab sc' env.scope).names.lookup x = _
  rw [show (relab sc' env.scope).names.lookup x = _ from relab_look hO.2.1 fun p hp => (hO.2.2.2 p hp).2.2, look_mem hO.2.2.1 e]
  rfl
theorem free_held (S : EnvOk B adr env) (hO : OkComp sc' env.scope) : ∀ p ∈ sc'.names, p.2 = .free → ∃ c, env.cells.lookup p.1 = some c := fun p hp q => S.held p.1 ((hO.2.2.2 p hp).2.2 q)
theorem clo_names (hO : OkComp sc' env.scope) : ((clo env sc'.names []).map (·.1)).Nodup := by
  rw [clo_fst]
  exact pick_nodup hO.2.2.1
theorem clo_cell (S : EnvOk B adr env) (hO : OkComp sc' env.scope) {n : Str} {c : Addr} (e : (n, c) ∈ clo env sc'.names []) : (n, NameKind.free) ∈ sc'.names ∧ env.cells.lookup n = some c := by
  refine (clo_mem e).elim (fun h => nomatch h) fun h => ⟨h.1, ?_⟩
  obtain ⟨c', hc⟩ := free_held S hO _ h.1 rfl
  have hc : env.cells.lookup n = some c' := hc
  rw [h.2, hc]; rfl
theorem clo_look (S : EnvOk B adr env) (hO : OkComp sc' env.scope) {n : Str} (e : (n, NameKind.free) ∈ sc'.names) : ∃ c, (clo env sc'.names []).lookup n = some c ∧ env.cells.lookup n = some c := by
  obtain ⟨c, hc⟩ := look_some (l := clo env sc'.names []) (x := n) (by
    rw [clo_fst]
    exact List.mem_append_left _ (List.mem_reverse.mpr (List.mem_map.mpr ⟨(n, .free), List.mem_filter.mpr ⟨e, rfl⟩, rfl⟩)))
  exact ⟨c, hc, (clo_cell S hO (mem_of_lookup hc)).2⟩
theorem cenv_own (S : EnvOk B adr env) (hO : OkComp sc' env.scope) {C a : Addr} (ha : a ∈ own (cenv sc' C env)) : a = C ∨ ∃ n, (n, NameKind.free) ∈ sc'.names ∧ env.cells.lookup n = some a := by
  rcases List.mem_cons.mp ha with e | ha
  · exact .inl e
  · obtain ⟨⟨n, c⟩, hm, e⟩ := List.mem_map.mp ha
    exact .inr ⟨n, e ▸ clo_cell S hO hm⟩
theorem cenv_own' (S : EnvOk B adr env) (hO : OkComp sc' env.scope) {C a : Addr} (ha : a ∈ own (cenv sc' C env)) : a = C ∨ a ∈ own env :=
  (cenv_own S hO ha).imp id fun ⟨_, _, e⟩ => own_cell e
theorem cenv_ok (S : EnvOk B adr env) (hO : OkComp sc' env.scope) {C : Addr} (h1 : C ∉ own env) (h2 : C ∉ adr) (h3 : B.get? C = none) : EnvOk B adr (cenv sc' C env) := by
  refine ⟨hO.1, S.glob, S.blt, List.nodup_cons.mpr ⟨fun q => ?_, ?_⟩, clo_names hO, fun a ha => ?_, fun a ha => ?_, fun x hx => ?_⟩
  · obtain ⟨⟨n, c⟩, hm, e⟩ := List.mem_map.mp q
    exact h1 ((show c = C from e) ▸ own_cell (clo_cell S hO hm).2)
  · refine List.pairwise_map.mpr (List.Pairwise.imp_of_mem (fun {x y} hx hy hne e => ?_) (List.pairwise_map.mp (clo_names (env := env) hO)))
    exact hne (own_cell_ne S (clo_cell S hO (show (x.1, x.2) ∈ _ from hx)).2 ((show x.2 = y.2 from e) ▸ (clo_cell S hO (show (y.1, y.2) ∈ _ from hy)).2))
  · exact (cenv_own' S hO ha).elim (fun e => e ▸ h2) (S.offA a)
  · exact (cenv_own' S hO ha).elim (fun e => e ▸ h3) (S.offB a)
  · obtain ⟨c, e, _⟩ := clo_look S hO (ck_cell hO hx)
    exact ⟨c, e⟩
theorem cenv_in (S : St prog w B D adr H ρ env h) (hO : OkComp sc' env.scope) {C : Addr} (h1 : C ∉ own env) (h2 : C ∉ adr) (h3 : B.get? C = none) (hns : h.Ns C fun _ => none) {t : CT} (hL : OkLoc sc' t) (hu : ubnd t ρ = true) :
    St prog w B D adr H ρ (cenv sc' C env) h := by
  refine ⟨S.sr, ⟨⟨_, hns, fun x v ok e q => ?_⟩, fun n c e => S.lr.cl n c (clo_cell S.en hO (mem_of_lookup e)).2, fun x v ok e q => ?_⟩, cenv_ok S.en hO h1 h2 h3⟩
  · have := List.all_eq_true.mp hu _ (hL _ (ck_local hO q) rfl)
    rw [show zhh (code (x, NameKind.local).1) ρ = some v from e] at this
    cases this
  · have hm := ck_cell hO q
    obtain ⟨c, u, e1, x1, x2⟩ := S.lr.cv x v ok e ((hO.2.2.2 _ hm).2.2 rfl)
    obtain ⟨c', e2, e3⟩ := clo_look S.en hO hm
    rw [Option.some.inj (e1.symm.trans e3)] at x1
    exact ⟨c', u, e2, x1, x2⟩
theorem cenv_out {adr₀ : List Addr} {h₀ : Heap} {ρc : Loc} (S₀ : St prog w B D adr₀ H ρ env h₀) (hO : OkComp sc' env.scope) {C : Addr} (hC : C ∉ own env) (hp : adr₀ <+: adr) (hs : SoftKeep h₀ h) (hen : EnvOk B adr env) (S : St prog w B D adr H' ρc (cenv sc' C env) h)
    (k : ∀ b ∈ own env, b ∉ own (cenv sc' C env) → ∀ o, h₀.get? b = some o → h.get? b = some o) (hρ : ∀ y v, zhh y ρ = some v → zhh y ρc = some v) : St prog w B D adr H' ρ env h := by
  obtain ⟨m, hns, hv⟩ := S₀.lr.ns
  have out : ∀ n c, env.cells.lookup n = some c → (n, NameKind.free) ∉ sc'.names → c ∉ own (cenv sc' C env) := fun n c e hn q =>
    (cenv_own S₀.en hO q).elim (fun e' => hC (e' ▸ own_cell e)) fun ⟨n', hm, e'⟩ => hn (own_cell_ne S₀.en e e' ▸ hm)
  have kl : env.locals ∉ own (cenv sc' C env) := fun q => (cenv_own S₀.en hO q).elim (fun e' => hC (e' ▸ own_locals)) fun ⟨n', _, e'⟩ => cell_locals S₀.en e' rfl
  refine ⟨S.sr, ⟨⟨m, ns_keep hns (k _ own_locals kl), fun x v ok e q => ?_⟩, fun n c e => ?_, fun x v ok e q => ?_⟩, hen⟩
  · obtain ⟨u, e1, x1⟩ := hv x v ok e q
    exact ⟨u, e1, x1.mono hp hs⟩
  · by_cases hn : (n, NameKind.free) ∈ sc'.names
    · obtain ⟨c', e1, e2⟩ := clo_look S₀.en hO hn
      exact Option.some.inj (e2.symm.trans e) ▸ S.lr.cl n c' e1
    · obtain ⟨v, x⟩ := S₀.lr.cl n c e
      exact ⟨v, cell_keep x (k c (own_cell e) (out n c e hn))⟩
  · by_cases hn : (x, NameKind.free) ∈ sc'.names
    · obtain ⟨c, u, e1, x1, x2⟩ := S.lr.cv x v ok (hρ _ _ e) (ck_free hO hn)
      exact ⟨c, u, (clo_cell S₀.en hO (mem_of_lookup e1)).2, x1, x2⟩
    · obtain ⟨c, u, e1, x1, x2⟩ := S₀.lr.cv x v ok e q
      exact ⟨c, u, e1, cell_keep x1 (k c (own_cell e1) (out x c e1 hn)), x2.mono hp hs⟩
end
end Mn
end
section
set_option maxRecDepth 100000
namespace Mn
open PySem PySem.W PyProof.Rows PySem.Calls SeqAt
section
variable {prog : Program} {w : World} {K : Frag} {B : Heap} {D : Ad} {P : Pg}
variable {E : Ev} {d : Nat} {A : Around} {Er : Value → Shared → Prop} {s : Shared} {adr adr' : List Addr} {H H' : MH} {env : Env} {ρ ρ' : Loc} {h h' : Heap} {sc' : Scope}
theorem comp_loop {Rr : Result → Shared → Prop} {elt target iter : PySem.Expr} {ifs : List PySem.Expr} {scope : Scope} {pos : Pos} {it acc : Value} {env : Env} (I : Nat → Shared → Prop)
    (turn : ∀ n s, I n s → Nx prog w A (notedBy (model prog w) A env fun e s' => Rr (.error e) s') target it (fun s₁ => Rr (.ok .next) s₁) (fun v s₁' => wpAny (model prog w) A (assign target env v) (fun _ s₂ =>
          wpAny (model prog w) A (forIn ifs true fun c r => if r = true then do let ok ← isTrue c env (eval c env); pure (ForInStep.yield ok) else pure (ForInStep.yield r)) (fun ok s₃ =>
            if ok = true then wpAny (model prog w) A (eval elt env) (fun x s₄ =>
              wpAny (model prog w) A (call (.builtin "list.append") [acc, x]) (fun _ s₅ => ∃ m, m < n ∧ I m s₅) (notedBy (model prog w) A env fun e s' => Rr (.error e) s') s₄) (notedBy (model prog w) A env fun e s' => Rr (.error e) s') s₃
            else ∃ m, m < n ∧ I m s₃) (notedBy (model prog w) A env fun e s' => Rr (.error e) s') s₂) (notedBy (model prog w) A env fun e s' => Rr (.error e) s') s₁') s)
    (n : Nat) {s : Shared} (h : I n s) : codeAny (model prog w) A (.compLoop (.ListComp elt [⟨target, iter, ifs, 0⟩] scope pos) 0 it acc env) Rr s := by
  refine codeAny_loop rfl I (fun n s hI => ?_) n h
  show wpAny _ A ((compTurn (.ListComp elt [⟨target, iter, ifs, 0⟩] scope pos) 0 it acc env).onRaise (fun x => do noteFrame x env; theTreesLotGoes x)) _ _ s
  refine wpAny_noted ?_
  rw [compTurn_list]
  refine wpAny_bind (wpAny_standAt (wpAny_bind (wpAny_mono (turn n s hI) (fun r s₁ h₁ => ?_) fun _ _ h' => h')))
  cases r with
  | none => exact wpAny_pure h₁
  | some v =>
    refine wpAny_bind (wpAny_mono h₁ (fun _ s₁' h₁' => wpAny_bind (wpAny_mono h₁' (fun _ s₂ h₂ => wpAny_bind (wpAny_mono h₂ (fun ok s₃ h₃ => ?_) fun _ _ h' => h')) fun _ _ h' => h')) fun _ _ h' => h')
    cases ok with
    | false => exact wpAny_pure ⟨rfl, h₃⟩
    | true => exact wpAny_bind (wpAny_bind (wpAny_mono h₃ (fun x s₄ h₄ => wpAny_bind (wpAny_mono h₄ (fun _ s₅ h₅ => wpAny_pure (wpAny_pure ⟨rfl, h₅⟩)) fun _ _ h' => h')) fun _ _ h' => h'))
theorem iter_self {i : It} {u : Value} {pts : List Addr} {Q : Value → Shared → Prop} (x : ItR D adr s.heap i u pts) (h : Q u s) : wpAny (model prog w) A (pyIter u) Q Er s := by
  cases i with
  | lst => obtain ⟨it, l, rfl, _, _, hi⟩ := x; exact wpAny_pyIter_listiter hi h
  | tup => obtain ⟨it, t, i, ws, rfl, _, hi, _⟩ := x; exact wpAny_pyIter_tupleiter hi h
  | rng => obtain ⟨it, rfl, _, hi⟩ := x; exact wpAny_pyIter_rangeiter hi h
  | enu => obtain ⟨e, it, l, old, rfl, _, _, he, _⟩ := x; exact wpAny_pyIter_enum he h
structure Tc (adrS : List Addr) (env env' : Env) (hS : Heap) (adr₀ : List Addr) (h₀ : Heap) (adr' : List Addr) (h : Heap) : Prop where
  tn : Tn adrS env hS adr' h
  pre : adr₀ <+: adr'
  soft : SoftKeep h₀ h
  kc : ∀ b ∈ own env, b ∉ own env' → ∀ o, h₀.get? b = some o → h.get? b = some o
theorem Tc.step {env' : Env} {hS h₀ : Heap} {adrS adr₀ adr₁ adr₂ : List Addr} {h₁ h₂ : Heap} (X : Tc adrS env env' hS adr₀ h₀ adr₁ h₁) (T : Tn adr₁ env' h₁ adr₂ h₂) (hk : SoftKeep h₁ h₂) (ho : ∀ a ∈ own env', a ∈ own env ∨ hS.get? a = none) (S₀ : St prog w B D adrS H ρ env hS) :
    Tc adrS env env' hS adr₀ h₀ adr₂ h₂ := by
  have nin : ∀ b o, hS.get? b = some o → b ∉ adrS → b ∉ adr₁ := fun b o e n q => (X.tn.new b q).elim n fun z => by rw [e] at z; cases z
  refine ⟨⟨X.tn.pre.trans T.pre, fun a q => (T.new a q).elim (X.tn.new a) fun z => .inr (none_back (X.tn.kp.live a) z), ⟨fun b o e n m => ?_, fun b e => T.kp.live b (X.tn.kp.live b e)⟩⟩, X.pre.trans T.pre, X.soft.trans hk, fun b hb n o e => ?_⟩
  · exact T.kp.keep b o (X.tn.kp.keep b o e n m) (nin b o e n) fun q => (ho b q).elim m fun z => by rw [e] at z; cases z
  · obtain ⟨ob, e'⟩ := Option.isSome_iff_exists.mp (S₀.lr.live S₀.en b hb)
    exact T.kp.keep b o (X.kc b hb n o e) (nin b ob e' (S₀.en.offA b hb)) n
theorem Tc.aside {env' : Env} {hS h₀ : Heap} {adrS adr₀ adr₁ : List Addr} {h₁ h₂ : Heap} {pts : List Addr} (X : Tc adrS env env' hS adr₀ h₀ adr₁ h₁) (k : ∀ b o, b ∉ pts → h₁.get? b = some o → h₂.get? b = some o) (hk : SoftKeep h₁ h₂) (hn : ∀ a ∈ pts, hS.get? a = none) (S₀ : St prog w B D adrS H ρ env hS) : Tc adrS env env' hS adr₀ h₀ adr₁ h₂ :=
  ⟨X.tn.aside k hn, X.pre, X.soft.trans hk, fun b hb n o e => k b o (fun q => by have := S₀.lr.live S₀.en b hb; rw [hn b q] at this; cases this) (X.kc b hb n o e)⟩
theorem tests_false {f : PySem.Expr → Bool → Sem (ForInStep Bool)} (hf : ∀ c, f c false = pure (.yield false)) {Q : Bool → Shared → Prop} : ∀ (l : List PySem.Expr), Q false s → wpAny (model prog w) A (forIn l false f) Q Er s
  | [], h => by rw [List.forIn_nil]; exact wpAny_pure h
  | c :: l, h => by
    rw [List.forIn_cons, hf]
    exact wpAny_bind (wpAny_pure (tests_false hf l h))
theorem tests_ok (ht : ST prog w B D E d) (R : Room A d) {m : Nat} {ifs : List PySem.Expr} : ∀ {ms : List MX} {s : Shared} {adr : List Addr} {H : MH} {b : Bool} {Q : Bool → Shared → Prop}, all? (trE m env.scope) ifs = some ms → tests E ms ρ H = some (b, H') →
    St prog w B D adr H ρ env s.heap → Po prog w B D adr env s H' ρ (fun _ _ c => c = b) Q →
    wpAny (model prog w) A (forIn ifs true fun c r => if r = true then do let ok ← isTrue c env (eval c env); pure (ForInStep.yield ok) else pure (ForInStep.yield r)) Q Er s := by
  induction ifs with
  | nil =>
    intro ms s adr H b Q tr e S PQ
    obtain rfl := all_nil tr
    exact wpAny_tests_nil ((PQ.ofT e).here S rfl s.toks)
  | cons c ifs ih =>
    intro ms s adr H b Q tr e S PQ
    obtain ⟨a, as, t1, t2, rfl⟩ := all_inv tr
    refine bnd2 e fun g H1 e1 e => ?_
    rw [List.forIn_cons, if_pos rfl]
    refine wpAny_bind (wpAny_bind (ht m c a A Er s adr H H1 env ρ g _ t1 e1 R S fun adr1 h1 k1 u1 T1 S1 x1 => wpAny_pure ?_))
    rw [show u1 = g from x1]
    cases g with
    | true => exact ih (s := ⟨h1, s.gens, s.drawn, k1, s.os⟩) t2 e S1 (PQ.after T1 k1)
    | false => exact tests_false (fun c => rfl) ifs (((PQ.ofT e).after T1 k1).here S1 rfl k1)
theorem put_frame {t : CT} {v : MV} {ρ₀ ρ₁ ρ₂ : Loc} (hu : ubnd t ρ₀ = true) (e : put P E t.mt v ρ₁ H = some (ρ₂, H')) (h : ∀ y v, zhh y ρ₀ = some v → zhh y ρ₁ = some v) : ∀ y v, zhh y ρ₀ = some v → zhh y ρ₂ = some v := by
  intro y u hy
  have h1 := h y u hy
  have hn : ∀ x ∈ t.codes, y ≠ x := fun x hx q => by
    have := List.all_eq_true.mp hu x (.tail _ hx)
    rw [← q, hy] at this
    cases this
  have set : ∀ {x : Nat} {v : MV} {ρ : Loc}, y ≠ x → zhh y ρ = some u → zhh y (zhi x v ρ) = some u := fun q e => by rw [getL_set, if_neg q]; exact e
  have nam : ∀ {x : Nat} {v : MV} {ρ ρ' : Loc} {H H' : MH}, put P E (.nam x) v ρ H = some (ρ', H') → ρ' = zhi x v ρ := fun e => by
    rw [put] at e
    exact (congrArg Prod.fst (Option.some.inj e)).symm
  cases t with
  | one x =>
    rw [nam e]
    exact set (hn x (.head _)) h1
  | two x z =>
    have e : put P E (.tup [.nam x, .nam z]) v ρ₁ H = some (ρ₂, H') := e
    rw [put] at e
    refine bnd e fun vs _ e => ?_
    obtain ⟨v1, vs1, ρa, Ha, _, ea, e⟩ := puts_cons e
    obtain ⟨v2, vs2, ρb, Hb, _, eb, e⟩ := puts_cons e
    rw [← show ρb = ρ₂ from congrArg Prod.fst (Option.some.inj (puts_nil e).2), nam eb, nam ea]
    exact set (hn z (.tail _ (.head _))) (set (hn x (.head _)) h1)
theorem trT_nam {n : Nat} {sc : Scope} {x : Str} {p : Pos} (h1 : okN x = true) (h2 : sc.names.lookup x = some .local) : trT (n + 1) sc (.Name x p) = some (.nam (code x)) := by
  show (if okN x = false then none else (match sc.names.lookup x with | some .local => some (MT.nam (code x)) | some .cell => some (MT.nam (code x)) | _ => none)) = _
  rw [if_neg (by rw [h1]; nofun), h2]
theorem trL_ok {sc : Scope} {e : PySem.Expr} {c : Nat} (h : trL sc e = some c) : trT 1 sc e = some (.nam c) := by
  cases e with
  | Name x p => exact gd (o := some (code x)) h fun g e => by rw [trT_nam g.1 g.2, ← Option.some.inj e]
  | _ => cases h
theorem trL_mono {sc : Scope} {e : PySem.Expr} {x : MT} (h : trT 1 sc e = some x) (hc : ∃ c, trL sc e = some c) : trT 2 sc e = some x := by
  cases e with
  | Name x p => exact h
  | _ => obtain ⟨c, hc⟩ := hc; cases hc
theorem trLs_ok {sc : Scope} : ∀ {ts : List PySem.Expr} {cs : List Nat}, all? (trL sc) ts = some cs → all? (trT 1 sc) ts = some (cs.map .nam)
  | [], cs, h => by rw [all_nil h]; rfl
  | t :: ts, cs, h => by
    obtain ⟨c, cs', h1, h2, rfl⟩ := all_inv h
    show (trT 1 sc t).bind _ = _
    rw [trL_ok h1]
    show (all? (trT 1 sc) ts).bind _ = _
    rw [trLs_ok h2]
    rfl
theorem ctOf_inv {cs : List Nat} {c : CT} (h : ctOf cs = some c) : c.mt = .tup (cs.map .nam) := by
  rcases cs with _ | ⟨x, _ | ⟨y, _ | ⟨z, cs⟩⟩⟩
  · cases h
  · cases h
  · rw [← Option.some.inj h]; rfl
  · cases h
theorem tupOf_inv {t : PySem.Expr} {ts : List PySem.Expr} (h : tupOf t = some ts) : ∃ a b, t = .Tuple ts a b := by
  cases t with
  | Tuple ts' a b => exact ⟨a, b, by rw [← Option.some.inj h]⟩
  | _ => cases h
theorem trCT_ok {sc : Scope} {t : PySem.Expr} {c : CT} (h : trCT sc t = some c) : trT 2 sc t = some c.mt := by
  unfold trCT at h
  cases hq : tupOf t with
  | some ts =>
    rw [hq] at h
    obtain ⟨a, b, rfl⟩ := tupOf_inv hq
    refine bnd h fun cs h1 h2 => ?_
    show (all? (trT 1 sc) ts).bind _ = _
    rw [trLs_ok h1, ctOf_inv h2]
    rfl
  | none =>
    rw [hq] at h
    refine bnd h fun x h1 h2 => ?_
    rw [← Option.some.inj h2]
    exact trL_mono (trL_ok h1) ⟨x, h1⟩
end
end Mn
end
section
set_option maxRecDepth 100000
namespace Mn
open PySem PySem.W PyProof.Rows PySem.Calls SeqAt
section
variable {prog : Program} {w : World} {K : Frag} {B : Heap} {D : Ad} {P : Pg}
variable {E : Ev} {d : Nat} {A : Around} {Er : Value → Shared → Prop} {s : Shared} {adr adr' : List Addr} {H H' : MH} {env : Env} {ρ ρ' : Loc} {h h' : Heap} {sc' : Scope}
theorem plain_hard {a : Addr} {ws : Array Value} (x : h.PlainList a ws) : Hard h a := by
  obtain ⟨n, e⟩ := x
  exact hard_of e (by simp) (by simp)
structure CpI (prog : Program) (w : World) (B : Heap) (D : Ad) (P : Pg) (d : Nat) (me : MX) (mt : CT) (mifs : List MX) (tx : PySem.Expr) (u : Value) (pts : List Addr) (s₀ : Shared) (adrS : List Addr) (env env' : Env) (adr₀ : List Addr) (h₀ : Heap) (L : Addr) (ρ : Loc) (racc : List MV) (H' : MH) (n : Nat)
    (adr : List Addr) (H : MH) (ρ1 : Loc) (h : Heap) (it : It) (acc : List MV) (ys : Array Value) : Prop where
  e : (ev P n d).k me mt mifs it acc ρ1 H = some (racc, H')
  X : Tc adrS env env' s₀.heap adr₀ h₀ adr h
  S : St prog w B D adr H ρ1 env' h
  x : ItR D adr h it u pts
  f : Away adr env' pts
  t : tupE tx it = true
  l : h.PlainList L ys
  v : VRs D adr h acc ys.toList
  la : L ∉ adr
  r : ∀ y v, zhh y ρ = some v → zhh y ρ1 = some v
noncomputable def CpE (prog : Program) (w : World) (B : Heap) (D : Ad) (s₀ : Shared) (adrS : List Addr) (env env' : Env) (adr₀ : List Addr) (h₀ : Heap) (L : Addr) (ρ : Loc) (racc : List MV) (H' : MH) (Rr : Result → Shared → Prop) : Prop :=
  ∀ adr1 h1 t1 ρc ys, Tc adrS env env' s₀.heap adr₀ h₀ adr1 h1 → St prog w B D adr1 H' ρc env' h1 → (∀ y v, zhh y ρ = some v → zhh y ρc = some v) → h1.PlainList L ys → VRs D adr1 h1 racc ys.toList → L ∉ adr1 → Rr (.ok .next) ⟨h1, s₀.gens, s₀.drawn, t1, s₀.os⟩
theorem k_none {me : MX} {mt : CT} {ifs : List MX} {n : Nat} {it : It} {acc : List MV} (e1 : it.next H = some none) : (ev P (n + 1) d).k me mt ifs it acc ρ H = some (acc, H) := by
  show (it.next H).bind _ = _
  rw [e1]; rfl
theorem k_some {me : MX} {mt : CT} {ifs : List MX} {n : Nat} {it : It} {acc : List MV} {v : MV} {it' : It} (e1 : it.next H = some (some (v, it'))) :
    (ev P (n + 1) d).k me mt ifs it acc ρ H = (put P (ev P n d) mt.mt v ρ H).bind fun q => (tests (ev P n d) ifs q.1 q.2).bind (ktk (ev P n d) me (fun a h => (ev P n d).k me mt ifs it' a q.1 h) acc q.1) := by
  show (it.next H).bind _ = _
  rw [e1]; rfl
theorem ktk_inv {k : List MV → MH → Option (List MV × MH)} {me : MX} {acc : List MV} {b : Bool} {r : List MV × MH} (e : ktk E me k acc ρ (b, H) = some r) : (b = false ∧ k acc H = some r) ∨ (b = true ∧ ∃ v H1, E.x me ρ H = some (v, H1) ∧ acc.length < lim ∧ k (acc ++ [v]) H1 = some r) := by
  cases b with
  | false => exact .inl ⟨rfl, e⟩
  | true => exact bnd2 (f := kek k acc) e fun v H1 e1 e => gd e fun hz e => .inr ⟨rfl, v, H1, e1, hz, e⟩
theorem one_of {a L : Addr} {C : Addr → Prop} (q : a ∈ [L]) (h : C L) : C a := List.mem_singleton.mp q ▸ h
theorem cmp_loop (C : Cx prog w K B D P) {N : Nat} (U : Up prog w B D P N d) (R : Room A d) {m : Nat} {x tx itx : PySem.Expr} {ifs : List PySem.Expr} {pos : Pos} {me : MX} {mt : CT} {mifs : List MX} {racc : List MV} {Rr : Result → Shared → Prop} {env' : Env}
    (t1 : trE m env'.scope x = some me) (t2 : trCT env'.scope tx = some mt) (t4 : all? (trE m env'.scope) ifs = some mifs) (hu : ubnd mt ρ = true)
    {s₀ : Shared} {adrS adr₀ : List Addr} {h₀ : Heap} {HS : MH} (S₀ : St prog w B D adrS HS ρ env s₀.heap) (ho : ∀ a ∈ own env', a ∈ own env ∨ s₀.heap.get? a = none) {u : Value} {pts : List Addr} (hnew : ∀ a ∈ pts, s₀.heap.get? a = none)
    {L : Addr} (hL0 : s₀.heap.get? L = none) (hLp : L ∉ pts) (hLo : L ∉ own env') (hfin : CpE prog w B D s₀ adrS env env' adr₀ h₀ L ρ racc H' Rr)
    {it : It} {acc : List MV} {ys : Array Value} {t : Nat} (I : CpI prog w B D P d me mt mifs tx u pts s₀ adrS env env' adr₀ h₀ L ρ racc H' N adr H ρ' h it acc ys) :
    codeAny (model prog w) A (.compLoop (.ListComp x [⟨tx, itx, ifs, 0⟩] sc' pos) 0 u (.ref L) env') Rr ⟨h, s₀.gens, s₀.drawn, t, s₀.os⟩ := by
  have hb : ∀ a ∈ pts, B.get? a = none := fun a q => base_none S₀.sr (hnew a q)
  have hlim := lim_eq
  refine comp_loop (fun n sx => n ≤ N ∧ ∃ adr1 H1 ρ1 h1 k1 it1 acc1 ys1, sx = ⟨h1, s₀.gens, s₀.drawn, k1, s₀.os⟩ ∧ CpI prog w B D P d me mt mifs tx u pts s₀ adrS env env' adr₀ h₀ L ρ racc H' n adr1 H1 ρ1 h1 it1 acc1 ys1)
    (fun n sx hI => ?_) N ⟨Nat.le_refl _, adr, H, ρ', h, t, it, acc, ys, rfl, I⟩
  obtain ⟨hnN, adr1, H1, ρ1, h1, k1, it1, acc, ys, rfl, I⟩ := hI
  cases n with
  | zero => cases I.e
  | succ n =>
    have hn : n ≤ N := Nat.le_of_succ_le hnN
    have side : ∀ {h2 : Heap}, (∀ b o, b ∉ pts → h1.get? b = some o → h2.get? b = some o) → St prog w B D adr1 H1 ρ1 env' h2 ∧ Tc adrS env env' s₀.heap adr₀ h₀ adr1 h2 ∧ h2.PlainList L ys ∧ VRs D adr1 h2 acc ys.toList := fun k =>
      have sk := soft_of I.x.hard fun b o e n => k b o n e
      ⟨I.S.aside I.x.hard k (fun a q => (I.f a q).1) (fun a q => (I.f a q).2) hb, I.X.aside k sk hnew S₀, I.l.at fun o e => k L o hLp e, I.v.mono (List.prefix_refl _) sk⟩
    cases e1 : it1.next H1 with
    | none => have e := I.e; rw [show (ev P (n + 1) d).k me mt mifs it1 acc ρ1 H1 = none from congrArg (Option.bind · _) e1] at e; cases e
    | some r =>
      refine next_ok (s := ⟨h1, s₀.gens, s₀.drawn, k1, s₀.os⟩) (Qn := fun s₁ => Rr (.ok .next) s₁) e1 I.S.sr I.x R.hh I.t ?_
      cases r with
      | none =>
        intro h2 k
        obtain ⟨S2, X2, l2, v2⟩ := side k
        have q := Option.some.inj ((k_none e1).symm.trans I.e)
        rw [show acc = racc from congrArg Prod.fst q] at v2
        rw [show H1 = H' from congrArg Prod.snd q] at S2
        exact hfin adr1 h2 k1 ρ1 ys X2 S2 I.r l2 v2 I.la
      | some p =>
        intro h2 tk uv k x2 xv hT2
        obtain ⟨S2, X2, l2, v2⟩ := side k
        have e := I.e
        rw [k_some (v := p.1) (it' := p.2) e1] at e
        refine bnd2 e fun ρ2 H2 e2 e => bnd2 e fun b H3 e3 e => ?_
        have last : ∀ {adrA adrB : List Addr} {hA hB : Heap}, Tn adrA env' hA adrB hB → hA.PlainList L ys → L ∉ adrA → hB.PlainList L ys ∧ L ∉ adrB := fun T hp hL =>
          ⟨hp.at fun o e => T.kp.keep L o e hL hLo, fun q => (T.new L q).elim hL fun z => by obtain ⟨_, e⟩ := hp; rw [e] at z; cases z⟩
        refine put_ok C (U.x n hn) R 2 (s := ⟨h2, s₀.gens, s₀.drawn, tk, s₀.os⟩) (trCT_ok t2) e2 S2 xv fun adr3 h3 k3 _ T3 S3 _ => ?_
        refine tests_ok (U.t n hn) R (s := ⟨h3, s₀.gens, s₀.drawn, k3, s₀.os⟩) t4 e3 S3 fun adr4 h4 k4 b4 T4 S4 x4 => ?_
        obtain ⟨l3, la3⟩ := last T3 l2 I.la
        obtain ⟨l4, la4⟩ := last T4 l3 la3
        obtain ⟨x3, f3⟩ := x2.turn S2 T3 I.f
        obtain ⟨x4', f4⟩ := x3.turn S3 T4 f3
        have v4 := S3.vts T4 (S2.vts T3 v2)
        have r3 := put_frame hu e2 I.r
        have X4 := (X2.step T3 (S2.soft T3.kp) ho S₀).step T4 (S3.soft T4.kp) ho S₀
        rcases ktk_inv e with ⟨rfl, e⟩ | ⟨rfl, v5, H5, e5, hz, e⟩
        · rw [show b4 = false from x4]
          exact ⟨n, Nat.lt_succ_self _, hn, adr4, H3, ρ2, h4, k4, p.2, acc, ys, rfl, e, X4, S4, x4', f4, hT2, l4, v4, la4, r3⟩
        · rw [show b4 = true from x4]
          refine U.x n hn m x me A _ ⟨h4, s₀.gens, s₀.drawn, k4, s₀.os⟩ adr4 H3 H5 env' ρ2 v5 _ t1 e5 R S4 fun adr5 h5 k5 u5 T5 S5 x5 => ?_
          obtain ⟨l5, la5⟩ := last T5 l4 la4
          obtain ⟨x5', f5⟩ := x4'.turn S4 T5 f4
          have v5' := S4.vts T5 v4
          have hn := v5'.length.trans Array.length_toList
          refine wpAny_list_append_plain (s := ⟨h5, s₀.gens, s₀.drawn, k5, s₀.os⟩) l5 (fun h6 l6 hs => ?_) (by rw [sizeLine_eq]; omega)
          have k6 : ∀ b o, b ∉ [L] → h5.get? b = some o → h6.get? b = some o := fun b o n e => (hs.2 b fun z => n (z ▸ .head _)).trans e
          have hd := plain_hard l5
          have sk := soft1 hd hs
          have S6 := S5.aside (l := [L]) (fun a q => one_of (C := Hard h5) q hd) k6 (fun a q => one_of (C := (· ∉ adr5)) q la5) (fun a q => one_of (C := (· ∉ own env')) q hLo) (fun a q => one_of (C := (B.get? · = none)) q (base_none S₀.sr hL0))
          have X6 := (X4.step T5 (S4.soft T5.kp) ho S₀).aside k6 sk (fun a q => one_of (C := (s₀.heap.get? · = none)) q hL0) S₀
          refine ⟨n, Nat.lt_succ_self _, ‹n ≤ N›, adr5, H5, ρ2, h6, k5, p.2, acc ++ [v5], _, rfl, e, X6, S6, x5'.mono (List.prefix_refl _) sk (fun a q o e => k6 a o (fun z => hLp (List.mem_singleton.mp z ▸ q)) e), f5, hT2, l6, ?_, la5, r3⟩
          rw [Array.toList_push]
          exact (v5'.append (.cons x5 .nil)).mono (List.prefix_refl _) sk
end
end Mn
end
section
set_option maxRecDepth 100000
namespace Mn
open PySem PySem.W PyProof.Rows PySem.Calls SeqAt
section
variable {prog : Program} {w : World} {K : Frag} {B : Heap} {D : Ad} {P : Pg}
variable {E : Ev} {d : Nat} {A : Around} {Er : Value → Shared → Prop} {s : Shared} {adr adr' : List Addr} {H H' : MH} {env : Env} {ρ ρ' : Loc} {h h' : Heap} {sc' : Scope}
theorem St.dead (S : St prog w B D adr H ρ env s.heap) {a : Addr} (hd : s.heap.get? a = none) : a ∉ adr ∧ a ∉ own env ∧ B.get? a = none :=
  ⟨fun q => (by have := S.sr.live a q; rw [hd] at this; cases this), fun q => (by have := S.lr.live S.en a q; rw [hd] at this; cases this), base_none S.sr hd⟩
theorem cmp_core (C : Cx prog w K B D P) {N : Nat} (U : Up prog w B D P N d) (R : Room A d) {m : Nat} {x tx itx : PySem.Expr} {ifs : List PySem.Expr} {pos p0 : Pos} {me mi : MX} {mt : CT} {mifs : List MX} {v : MV} {use : Option (Value → Sem Unit)} {Q : Value → Shared → Prop}
    (hO : OkComp sc' env.scope) (t1 : trE m (relab sc' env.scope) x = some me) (t2 : trCT (relab sc' env.scope) tx = some mt) (t3 : trE m env.scope itx = some mi) (t4' : all? (trE m (relab sc' env.scope)) ifs = some mifs) (hL : OkLoc sc' mt)
    (e : evC P (ev P N d) me mt mi mifs ρ H = some (v, H')) (S : St prog w B D adr H ρ env s.heap)
    (hfin : ∀ adr' h' t acc Cc mm, Tn adr env s.heap adr' h' → St prog w B D adr' H' ρ env h' → VR D adr' h' v acc → h'.Ns Cc mm → Cc ∉ adr' → Cc ∉ own env → s.heap.get? Cc = none → compPost (model prog w) A Er use Q acc Cc (.ok .next) ⟨h', s.gens, s.drawn, t, s.os⟩) :
    wpAny (model prog w) A (comprehension (.ListComp x [⟨tx, itx, ifs, 0⟩] sc' pos) sc' env p0 (newList []) false (eval itx env) use) Q Er s := by
  refine bnd2 e fun i H1 e1 e => gd e fun hg e => bnd2 e fun racc H2 e2 e => gd e fun hz e => ?_
  rw [Bool.and_eq_true] at hg
  refine wpAny_comprehension_free rfl (set_not t3 env) (closure_ok (free_held S.en hO)) hO.1 (fun y hy q => look_mem hO.2.2.1 (by rw [← q]; exact hy)) (evI_ok C (U.x N (Nat.le_refl _)) t3 e1 R S fun adr1 h1 k1 u pts T1 S1 x1 hf => ?_)
  refine wpAny_newObj_type (wpAny_newFunctionEnv (fun p hp => (hO.2.2.2 p hp).2.1) (by intro y hy; simp at hy) (fun h3 hns hsb => ?_) hO.1)
  dsimp only at hns hsb ⊢
  generalize hH2 : h1.push { cls := .type "list", dict := none, data := .seq ([] : List Value).toArray } = h2 at hns hsb ⊢
  have hz2 : h2.objs.size = h1.objs.size + 1 := by rw [← hH2]; exact Heap.size_push ..
  have k2 : ∀ b o, h1.get? b = some o → h2.get? b = some o := fun b o e => by rw [← hH2]; exact keep_push b o e
  have hC2 : h2.get? h2.objs.size = none := none_size
  have hC1 : h1.get? h2.objs.size = none := none_back (live_of k2 _) hC2
  have k3 : ∀ b o, h2.get? b = some o → h3.get? b = some o := fun b o e => (hsb.2 b fun z => by rw [z, hC2] at e; cases e).trans (keep_push b o e)
  have kk : ∀ b o, h1.get? b = some o → h3.get? b = some o := fun b o e => k3 b o (k2 b o e)
  have S3 := S1.grown kk
  have hC0 : s.heap.get? h2.objs.size = none := none_back (T1.kp.live _) hC1
  have hL1 : h1.get? h1.objs.size = none := none_size
  have hL0 : s.heap.get? h1.objs.size = none := none_back (T1.kp.live _) hL1
  have np : ∀ {a : Addr}, h1.get? a = none → a ∉ pts := fun hd q => by have := x1.live _ q; rw [hd] at this; cases this
  obtain ⟨c1, c2, c3⟩ := St.dead (s := ⟨h1, s.gens, s.drawn, k1, s.os⟩) S1 hC1
  obtain ⟨l1, l2, _⟩ := St.dead (s := ⟨h1, s.gens, s.drawn, k1, s.os⟩) S1 hL1
  have lc : h1.objs.size ≠ h2.objs.size := by rw [hz2]; exact Nat.ne_of_lt (Nat.lt_succ_self _)
  have hpl : h3.PlainList h1.objs.size #[] := ⟨0, k3 _ _ (by rw [← hH2]; exact Heap.get?_push_size _ rfl)⟩
  have Sc : St prog w B D adr1 H1 ρ (cenv sc' h2.objs.size env) h3 := cenv_in S3 hO c2 c1 c3 hns hL hg.1
  have ho : ∀ a ∈ own (cenv sc' h2.objs.size env), a ∈ own env ∨ s.heap.get? a = none := fun a q => (cenv_own' S.en hO q).elim (fun e => .inr (e ▸ hC0)) .inl
  have hLo : h1.objs.size ∉ own (cenv sc' h2.objs.size env) := fun q => (cenv_own' S.en hO q).elim lc l2
  have fin : CpE prog w B D s adr env (cenv sc' h2.objs.size env) adr1 h3 h1.objs.size ρ racc H2 (compPost (model prog w) A Er use Q (.ref h1.objs.size) h2.objs.size) := by
    intro adr4 h4 t4 ρc ys X4 S4 hρ hp4 hv4 hL4
    have S5 : St prog w B D adr4 H2 ρ env h4 := cenv_out S3 hO c2 X4.pre X4.soft (S.en.keep (S.lr.live S.en) X4.tn.new) S4 X4.kc hρ
    have hp : adr4 <+: adr4 ++ [h1.objs.size] := List.prefix_append ..
    have S6 := S5.takes (o := .list racc) (fun _ _ e => e) hL4 l2 (.list racc _ ys hp4 (hv4.mono hp (.refl _)) (off_le S1.sr (Nat.le_refl _)))
    obtain ⟨mm, hnsC⟩ := S4.lr.ns_
    have q := Option.some.inj e
    rw [show H2.new (.list racc) = H' from congrArg Prod.snd q] at S6
    refine hfin _ h4 t4 _ h2.objs.size mm ⟨X4.tn.pre.trans hp, fun a q => ?_, X4.tn.kp⟩ S6 ?_ hnsC (fun q => ?_) c2 hC0
    · exact (List.mem_append.mp q).elim (X4.tn.new a) fun q => .inr (List.mem_singleton.mp q ▸ hL0)
    · rw [← show MV.ref H2.next = v from congrArg Prod.fst q]
      exact .ref _ _ (by rw [← S5.sr.len]; simp)
    · exact (List.mem_append.mp q).elim (S4.en.offA _ own_locals) fun q => lc (List.mem_singleton.mp q).symm
  have x3 : ItR D adr1 h3 i u pts := x1.mono (List.prefix_refl _) (.of_keep kk) fun a _ o e => kk a o e
  have I : CpI prog w B D P d me mt mifs tx u pts s adr env (cenv sc' h2.objs.size env) adr1 h3 h1.objs.size ρ racc H2 N adr1 H1 ρ h3 i [] #[] :=
    ⟨e2, ⟨T1.trans (Tn.grown kk), List.prefix_refl _, .refl _, fun _ _ _ _ e => e⟩, Sc, x3, fun a q => ⟨(hf a q).2.1, fun z => (cenv_own' S.en hO z).elim (fun e => np hC1 (e ▸ q)) (hf a q).2.2⟩, tupE_ok (trCT_ok t2) hg.2, hpl, .nil, l1, fun _ _ q => q⟩
  have go : ∀ t4, codeAny (model prog w) A (.compLoop (.ListComp x [⟨tx, itx, ifs, 0⟩] sc' pos) 0 u (.ref h1.objs.size) (cenv sc' h2.objs.size env)) (compPost (model prog w) A Er use Q (.ref h1.objs.size) h2.objs.size) ⟨h3, s.gens, s.drawn, t4, s.os⟩ := fun t4 =>
    cmp_loop C U R t1 t2 t4' hg.1 S ho (fun a q => (hf a q).1) hL0 (np hL1) hLo fin I
  exact codeAny_compStart_list (go _) (iter_self (s := ⟨h3, s.gens, s.drawn, _, s.os⟩) x3 (go _))
theorem frame_go (S : St prog w B D adr H ρ env h) {Cc : Addr} {mm : Str → Option Value} (hns : h.Ns Cc mm) (hs : Heap.SameBut Cc h h') (h1 : Cc ∉ adr) (h2 : Cc ∉ own env) (h3 : B.get? Cc = none) : St prog w B D adr H ρ env h' :=
  S.aside (l := [Cc]) (fun a q => one_of (C := Hard h) q (ns_hard hns)) (fun b o n e => (hs.2 b fun z => n (z ▸ .head _)).trans e) (fun a q => one_of (C := (· ∉ adr)) q h1) (fun a q => one_of (C := (· ∉ own env)) q h2) (fun a q => one_of (C := (B.get? · = none)) q h3)
theorem frame_tn {h₀ : Heap} {adr₀ : List Addr} (T : Tn adr₀ env h₀ adr h) {Cc : Addr} (hs : Heap.SameBut Cc h h') (h0 : h₀.get? Cc = none) : Tn adr₀ env h₀ adr h' :=
  T.aside (pts := [Cc]) (fun b o n e => (hs.2 b fun z => n (z ▸ .head _)).trans e) fun a q => one_of (C := (h₀.get? · = none)) q h0
theorem sko (C : Cx prog w K B D P) {N : Nat} (U : Up prog w B D P N d) : SKo prog w B D P (ev P N d) d := by
  intro m x t it ifs sc' pos e mi mt mifs A Er s adr H H' env ρ v Q hO t1 t2 t3 t4 hL ev R S PQ
  rw [eval_ListComp]
  refine cmp_core (use := none) C U R hO t1 t2 t3 t4 hL ev S fun adr' h' tt acc Cc mm T' S' x' hns c1 c2 c0 => ?_
  exact ⟨mm, hns, fun h'' hs => PQ adr' h'' tt acc (frame_tn T' hs c0) (frame_go S' hns hs c1 c2 (base_none S.sr c0)) (x'.mono (List.prefix_refl _) (soft1 (ns_hard hns) hs))⟩
theorem ite_w {α : Type} {M : Model} {b : Bool} {x y : Sem α} {Q : α → Shared → Prop} (ht : wpAny M A x Q Er s) (hf : wpAny M A y Q Er s) : wpAny M A (if b = true then x else y) Q Er s := by
  cases b with
  | true => exact ht
  | false => exact hf
theorem s_asgC (C : Cx prog w K B D P) {N : Nat} (U : Up prog w B D P N d) {m : Nat} {xn : Str} {pn : Pos} {e : PySem.Expr} {pos : Pos} {mt : MT} {me : MX} {Q : Flow → Shared → Prop} (hc : isComp e = true) (t1 : trT m env.scope (.Name xn pn) = some mt) (t2 : trE m env.scope e = some me)
    {o : Out} (evv : (((ev P N d).x me ρ H).bind fun u => (put P (ev P N d) mt u.1 ρ u.2).bind fun r => some (Out.nxt, r.1, r.2)) = some (o, ρ', H')) (R : Room A d) (S : St prog w B D adr H ρ env s.heap) (PQ : Po prog w B D adr env s H' ρ' (fun adr' h' f => OutR D adr' h' o f) Q) :
    wpAny (model prog w) A (exec (.Assign [.Name xn pn] e pos) env) Q Er s := by
  cases m with
  | zero => cases t2
  | succ m =>
  refine bnd2 evv fun v H1 e1 evv => bnd2 evv fun ρ1 H2 e2 ev9 => ?_
  rw [exec_Assign_arm]
  refine wpAny_bind (wpAny_standAt ?_)
  cases trE_inv t2 with
  | @cmpr e t it ifs sc' p me mi mt ms hO c1 c2 c3 c4 hL =>
    show wpAny _ _ (do let b ← pure true; _) _ _ _
    refine wpAny_bind (wpAny_pure ?_)
    refine ite_w ?_ ?_
    case refine_2 =>
      refine wpAny_bind (U.x N (Nat.le_refl _) (m + 1) _ _ A Er s adr H H1 env ρ v _ t2 e1 R S fun adr1 h1 k1 u1 T1 S1 x1 => ?_)
      show wpAny (model prog w) A (do assign (.Name xn pn) env u1; pure Flow.next) Q Er _
      exact wpAny_bind (put_ok C (U.x N (Nat.le_refl _)) R (m + 1) (s := ⟨h1, s.gens, s.drawn, k1, s.os⟩) t1 e2 S1 x1 fun adr2 h2 k2 _ T2 S2 _ => wpAny_pure ((PQ.ofS ev9) adr2 h2 k2 _ (T1.trans T2) S2 rfl))
    have he : (assignEach [PySem.Expr.Name xn pn] env).map (·.2) = [assign (.Name xn pn) env] := rfl
    rw [he, arm_evalThenUse_ListComp]
    cases N with
    | zero => cases e1
    | succ N =>
      have U' : Up prog w B D P N d := ⟨fun n hn => U.x n (Nat.le_succ_of_le hn), fun n hn => U.t n (Nat.le_succ_of_le hn), fun n hn => U.s n (Nat.le_succ_of_le hn)⟩
      refine wpAny_bind (wpAny_bind (cmp_core C U' R hO c1 c2 c3 c4 hL e1 S fun adr' h' tk acc Cc mm T' S' x' hns q1 q2 q0 => ?_))
      show wpAny (model prog w) A (assign (.Name xn pn) env acc) _ _ _
      refine put_ok C (U.x (N + 1) (Nat.le_refl _)) R (m + 1) (s := ⟨h', s.gens, s.drawn, tk, s.os⟩) t1 e2 S' x' fun adr2 h2 k2 _ T2 S2 _ => ?_
      have hns2 : h2.Ns Cc mm := ns_keep hns fun o e => T2.kp.keep _ o e q1 q2
      have q1' : Cc ∉ adr2 := fun q => (T2.new Cc q).elim q1 fun z => by obtain ⟨o, es, ep, e, r⟩ := hns; rw [e] at z; cases z
      exact ⟨mm, hns2, fun h3 hs => wpAny_pure (wpAny_pure ((PQ.ofS ev9) adr2 h3 k2 _ (frame_tn (T'.trans T2) hs q0) (frame_go S2 hns2 hs q1' q2 (base_none S.sr q0)) rfl))⟩
  | _ => cases hc
inductive TsI (m : Nat) (sc : Scope) : PySem.Stmt → MS → Prop
  | asg {t e : PySem.Expr} {p : Pos} {mt : MT} {me : MX} (hc : isComp e = false) (h : swp t e sc = some none) (t1 : trT m sc t = some mt) (t2 : trE m sc e = some me) : TsI m sc (.Assign [t] e p) (.asg mt me)
  | asgC {x : Str} {q p : Pos} {e : PySem.Expr} {mt : MT} {me : MX} (hc : isComp e = true) (t1 : trT m sc (.Name x q) = some mt) (t2 : trE m sc e = some me) : TsI m sc (.Assign [.Name x q] e p) (.asg mt me)
  | asgN {t e : PySem.Expr} {p : Pos} {ns : List Str} {me : MX} (hc : isComp e = false) (h : swp t e sc = some (some ns)) (hk : swpOk sc ns = true) (t2 : trE m sc e = some me) : TsI m sc (.Assign [t] e p) (.asg (.tup ((ns.map code).map .nam)) me)
  | aug {x : Str} {q p : Pos} {op : Operator} {o : Op} {e : PySem.Expr} {me : MX} (ok : okS x) (hl : sc.names.lookup x = some .local) (t1 : trOp op = some o) (t2 : trE m sc e = some me) : TsI m sc (.AugAssign (.Name x q) op e p) (.aug (code x) o me)
  | ife {c : PySem.Expr} {a b : List PySem.Stmt} {p : Pos} {mc : MX} {ma mb : List MS} (t1 : trE m sc c = some mc) (t2 : all? (trS m sc) a = some ma) (t3 : all? (trS m sc) b = some mb) : TsI m sc (.If c a b p) (.ife mc ma mb)
  | for_ {t it : PySem.Expr} {b : List PySem.Stmt} {p : Pos} {mt : MT} {mi : MX} {mb : List MS} (t1 : trT m sc t = some mt) (t2 : trE m sc it = some mi) (t3 : all? (trS m sc) b = some mb) : TsI m sc (.For t it b [] p) (.for_ mt mi mb)
  | whl {c : PySem.Expr} {b : List PySem.Stmt} {p : Pos} {mc : MX} {mb : List MS} (t1 : trE m sc c = some mc) (t2 : all? (trS m sc) b = some mb) : TsI m sc (.While c b [] p) (.whl mc mb)
  | ret {e : Option PySem.Expr} {p : Pos} {me : Option MX} (t1 : opt? (trE m sc) e = some me) : TsI m sc (.Return e p) (.ret me)
  | exp {e : PySem.Expr} {p : Pos} {me : MX} (hc : isComp e = false) (t1 : trE m sc e = some me) : TsI m sc (.Expr e p) (.exp me)
  | rai {st : PySem.Stmt} {me : MX} : TsI m sc st (.rai me)
theorem TsI.of {m : Nat} {sc : Scope} {x : PySem.Stmt} {e e' : MS} (h : some e' = some e) (k : TsI m sc x e') : TsI m sc x e := by rw [← Option.some.inj h]; exact k
theorem trS_inv {m : Nat} {sc : Scope} {st : PySem.Stmt} {ms : MS} (tr : trS (m + 1) sc st = some ms) : TsI m sc st ms := by
  cases st with
  | Assign ts e pos =>
    rcases ts with _ | ⟨t, _ | ⟨t', ts⟩⟩
    · cases tr
    · have tr : (if isComp e = true then (if isNm t = true then (trT m sc t).bind fun t => (trE m sc e).bind fun e => some (MS.asg t e) else none) else (swp t e sc).bind fun r => match r with
        | none => (trT m sc t).bind fun t => (trE m sc e).bind fun e => some (MS.asg t e)
        | some ns => if swpOk sc ns = true then (trE m sc e).bind fun e => some (.asg (.tup ((ns.map code).map .nam)) e) else none) = some ms := tr
      cases hc : isComp e with
      | true =>
        rw [hc, if_pos rfl] at tr
        refine gd tr fun hn tr => bnd tr fun mt t1 tr => bnd tr fun me t2 tr9 => ?_
        cases t with
        | Name => exact .of tr9 (.asgC hc t1 t2)
        | _ => cases hn
      | false =>
        rw [hc, if_neg nofun] at tr
        refine bnd tr fun sw t0 tr => ?_
        cases sw with
        | none => exact bnd tr fun mt t1 tr => bnd tr fun me t2 tr => .of tr (.asg hc t0 t1 t2)
        | some ns => exact gd tr fun hk tr => bnd tr fun me t2 tr => .of tr (.asgN hc t0 hk t2)
    · cases tr
  | AugAssign tg op e pos =>
    cases tg with
    | Name x q =>
      have tr : (if okN x = false ∨ sc.names.lookup x ≠ some .local then none else (trOp op).bind fun o => (trE m sc e).bind fun e => some (MS.aug (code x) o e)) = some ms := tr
      by_cases hN : okN x = false ∨ sc.names.lookup x ≠ some .local
      · rw [if_pos hN] at tr; cases tr
      · rw [if_neg hN] at tr
        rw [not_or, Decidable.not_not] at hN
        exact bnd tr fun o t1 tr => bnd tr fun me t2 tr => .of tr (.aug (okN_low hN.1).1 hN.2 t1 t2)
    | _ => cases tr
  | If c a b pos => exact bnd (f := fun c => (all? (trS m sc) a).bind fun a => (all? (trS m sc) b).bind fun b => some (MS.ife c a b)) tr fun mc t1 tr => bnd tr fun ma t2 tr => bnd tr fun mb t3 tr => .of tr (.ife t1 t2 t3)
  | For t it b oe pos =>
    cases oe with
    | nil => exact bnd (f := fun t => (trE m sc it).bind fun it => (all? (trS m sc) b).bind fun b => some (MS.for_ t it b)) tr fun mt t1 tr => bnd tr fun mi t2 tr => bnd tr fun mb t3 tr => .of tr (.for_ t1 t2 t3)
    | cons _ _ => cases tr
  | While c b oe pos =>
    cases oe with
    | nil => exact bnd (f := fun c => (all? (trS m sc) b).bind fun b => some (MS.whl c b)) tr fun mc t1 tr => bnd tr fun mb t2 tr => .of tr (.whl t1 t2)
    | cons _ _ => cases tr
  | Return eo pos => exact bnd (f := fun e => some (MS.ret e)) tr fun me t1 tr => .of tr (.ret t1)
  | Expr x pos =>
    have tr : (if isComp x = true then none else (trE m sc x).bind fun e => some (MS.exp e)) = some ms := tr
    cases hc : isComp x with
    | true => rw [hc, if_pos rfl] at tr; cases tr
    | false =>
      rw [hc, if_neg nofun] at tr
      exact bnd tr fun me t1 tr => .of tr (.exp hc t1)
  | Raise e c pos =>
    cases e with
    | none => cases tr
    | some e =>
      cases c with
      | none => exact bnd (f := fun e => some (MS.rai e)) tr fun me t1 tr => .of tr .rai
      | some _ => cases tr
  | _ => cases tr
theorem ss_step (C : Cx prog w K B D P) {N : Nat} (U : Up prog w B D P N d) : SS prog w B D (ev P (N + 1) d) d := by
  intro m st ms A Er s adr H H' env ρ ρ' o Q tr ev R S PQ
  have hx := U.x N (Nat.le_refl _)
  cases m with
  | zero => cases tr
  | succ m =>
  cases trS_inv tr with
  | asg hc h t1 t2 => exact s_asg C hx hc h t1 t2 ev R S PQ
  | asgC hc t1 t2 => exact s_asgC C U hc t1 t2 ev R S PQ
  | asgN hc h hk t2 => exact s_asgN hx hc h hk t2 ev R S PQ
  | aug ok hl t1 t2 => exact s_aug hx ok hl t1 t2 ev R S PQ
  | @ife c a b p mc ma mb t1 t2 t3 =>
    have ev : (((Mn.ev P N d).t mc ρ H).bind fun u => match u.1 with | true => stmts (Mn.ev P N d) ma ρ u.2 | false => stmts (Mn.ev P N d) mb ρ u.2) = some (o, ρ', H') := ev
    refine bnd2 ev fun g H1 e1 ev => wpAny_If (U.t N (Nat.le_refl _) m _ mc A Er s adr H H1 env ρ g _ t1 e1 R S fun adr1 h1 k1 u1 T1 S1 x1 => ?_)
    rw [show u1 = g from x1]
    cases g with
    | true => exact x_stmts (U.s N (Nat.le_refl _)) (s := ⟨h1, s.gens, s.drawn, k1, s.os⟩) t2 ev R S1 (PQ.after T1 k1)
    | false => exact x_stmts (U.s N (Nat.le_refl _)) (s := ⟨h1, s.gens, s.drawn, k1, s.os⟩) t3 ev R S1 (PQ.after T1 k1)
  | for_ t1 t2 t3 => exact s_for C U t1 t2 t3 ev R S PQ
  | whl t1 t2 => exact s_while U t1 t2 ev R S PQ
  | @ret eo p me t1 =>
    cases eo with
    | none =>
      obtain rfl : me = none := (Option.some.inj t1).symm
      exact wpAny_Return_none ((PQ.ofS ev).here S ⟨_, rfl, .none⟩ s.toks)
    | some x =>
      refine bnd t1 fun a t2 t1 => ?_
      obtain rfl : me = some a := (Option.some.inj t1).symm
      exact bnd2 (f := fun u => some (Out.ret u.1, ρ, u.2)) ev fun v H1 e1 ev => wpAny_Return_some (hx m x a A Er s adr H H1 env ρ v _ t2 e1 R S fun adr1 h1 k1 u1 T1 S1 x1 => (PQ.ofS ev) adr1 h1 k1 _ T1 S1 ⟨u1, rfl, x1⟩)
  | @exp x p me hc t1 =>
    exact bnd2 (f := fun u => some (Out.nxt, ρ, u.2)) ev fun v H1 e1 ev => wpAny_Expr_any (hx m x me A Er s adr H H1 env ρ v _ t1 e1 R S fun adr1 h1 k1 u1 T1 S1 x1 => (PQ.ofS ev) adr1 h1 k1 _ T1 S1 rfl) (by unfold interactive; rw [S.en.kind]; rfl) (comp_no hc _ _ _)
  | rai => cases ev
noncomputable def dn (P : Pg) (N d : Nat) : Unit → Ev := fun _ => match d with | 0 => Ev.zero | d + 1 => ev P N d
theorem ev_succ (N d : Nat) : ev P (N + 1) d = Ev.step P (ev P N d) (dn P N d) := rfl
theorem sz {α : Type} {a : α} {C : Prop} (h : (none : Option α) = some a) : C := nomatch h
theorem sound (C : Cx prog w K B D P) : ∀ (N d : Nat), SX prog w B D (ev P N d) d ∧ ST prog w B D (ev P N d) d ∧ SC prog w B D (ev P N d) d ∧ SS prog w B D (ev P N d) d := by
  intro N
  induction N using Nat.strongRecOn with
  | ind N ih =>
    intro d
    cases N with
    | zero => exact ⟨fun _ _ _ _ _ _ _ _ _ _ _ _ _ _ ev => sz ev, fun _ _ _ _ _ _ _ _ _ _ _ _ _ _ ev => sz ev, fun _ _ _ _ _ _ _ _ _ _ _ _ _ _ ev => sz ev, fun _ _ _ _ _ _ _ _ _ _ _ _ _ _ _ ev => sz ev⟩
    | succ N =>
      have U : Up prog w B D P N d := ⟨fun n hn => (ih n (Nat.lt_succ_of_le hn) d).1, fun n hn => (ih n (Nat.lt_succ_of_le hn) d).2.1, fun n hn => (ih n (Nat.lt_succ_of_le hn) d).2.2.2⟩
      obtain ⟨h1, h2, h3, h4⟩ := ih N (Nat.lt_succ_self _) d
      have hd : Dp prog w B D (dn P N d ()) d := by
        cases d with
        | zero => exact .zero 0
        | succ d => exact .succ (ih N (Nat.lt_succ_self _) d).2.2.2
      have hss := ss_step C U
      rw [ev_succ] at hss ⊢
      exact ⟨sx_step C h1 h2 h3 (sko C U), st_step h1 h2, sc_step C hd, hss⟩
end
end Mn
end
section
namespace Mn
noncomputable def lkN {α : Type} (n : Nat) : List (Nat × α) → Option α
  | [] => none
  | (k, a) :: r => match Nat.beq k n with | true => some a | false => lkN n r
noncomputable def pg (fns : List (Nat × MF)) (glb : List (Nat × MV)) (cls : List (Nat × List Nat × List (Nat × Nat))) : Pg where
  fns n := lkN n fns
  glb n := lkN n glb
  meth c x := match lkN c cls with | some p => lkN x p.2 | none => none
  atr c x := match lkN c cls with | some p => p.1.any (Nat.beq x) | none => false
section
variable (P : Pg) (n d : Nat)
noncomputable def kv (H : MH) (v : MV) : Option (MV × MH) := some (v, H)
noncomputable def kb2 (op : Op) (u : MV) : MV × MH → Option (MV × MH) := fun v => binop op u v.1 v.2
noncomputable def kb1 (op : Op) (b : MX) (L : Loc) : MV × MH → Option (MV × MH) := fun u => ((ev P n d).x b L u.2).bind (kb2 op u.1)
noncomputable def kng2 (H : MH) : Int → Option (MV × MH) := fun i => some (.int (-i), H)
noncomputable def kng : MV × MH → Option (MV × MH) := fun u => (asInt u.1).bind (kng2 u.2)
noncomputable def knt2 (H : MH) : Bool → Option (MV × MH) := fun b => some (.bool (!b), H)
noncomputable def knt : MV × MH → Option (MV × MH) := fun u => (truth u.1 u.2).bind (knt2 u.2)
noncomputable def kc3 (H : MH) : Bool → Option (MV × MH) := fun r => some (.bool r, H)
noncomputable def kc2 (op : Co) (u : MV) : MV × MH → Option (MV × MH) := fun v => (compare op u v.1 v.2).bind (kc3 v.2)
noncomputable def kc1 (op : Co) (b : MX) (L : Loc) : MV × MH → Option (MV × MH) := fun u => ((ev P n d).x b L u.2).bind (kc2 op u.1)
noncomputable def kd2 (op' : Co) (v : MV) : MV × MH → Option (MV × MH) := fun w => (compare op' v w.1 w.2).bind (kc3 w.2)
noncomputable def kd1 (op' : Co) (v : MV) (c : MX) (L : Loc) (H : MH) : Bool → Option (MV × MH) := fun r => match r with
  | true => ((ev P n d).x c L H).bind (kd2 op' v)
  | false => some (.bool false, H)
noncomputable def kd0' (op : Co) (u : MV) (op' : Co) (c : MX) (L : Loc) : MV × MH → Option (MV × MH) := fun v => (compare op u v.1 v.2).bind (kd1 P n d op' v.1 c L v.2)
noncomputable def kd0 (op : Co) (b : MX) (op' : Co) (c : MX) (L : Loc) : MV × MH → Option (MV × MH) := fun u => ((ev P n d).x b L u.2).bind (kd0' P n d op u.1 op' c L)
noncomputable def kif (a b : MX) (L : Loc) : Bool × MH → Option (MV × MH) := fun u => match u.1 with | true => (ev P n d).x a L u.2 | false => (ev P n d).x b L u.2
noncomputable def kat (x : Nat) : MV × MH → Option (MV × MH) := fun u => (attr P u.2 u.1 x).bind (kv u.2)
noncomputable def ksb2 (u : MV) : MV × MH → Option (MV × MH) := fun v => (item v.2 u v.1).bind (kv v.2)
noncomputable def ksb (i : MX) (L : Loc) : MV × MH → Option (MV × MH) := fun u => ((ev P n d).x i L u.2).bind (ksb2 u.1)
noncomputable def ksl3 (u : MV) (lo : Option MV) : Option MV × MH → Option (MV × MH) := fun w => slice w.2 u lo w.1
noncomputable def ksl2 (u : MV) (hi : Option MX) (L : Loc) : Option MV × MH → Option (MV × MH) := fun v => (evo (ev P n d) hi L v.2).bind (ksl3 u v.1)
noncomputable def ksl (lo hi : Option MX) (L : Loc) : MV × MH → Option (MV × MH) := fun u => (evo (ev P n d) lo L u.2).bind (ksl2 P n d u.1 hi L)
noncomputable def kca2 (f : MV) : List MV × MH → Option (MV × MH) := fun v => (ev P n d).c f v.1 v.2
noncomputable def kca (as : List MX) (L : Loc) : MV × MH → Option (MV × MH) := fun u => if okFn P u.1 = true then (evs (ev P n d) as L u.2).bind (kca2 P n d u.1) else none
noncomputable def ktu : List MV × MH → Option (MV × MH) := fun v => if v.1.length ≤ lim then some (.tup v.1, v.2) else none
noncomputable def kls : List MV × MH → Option (MV × MH) := fun v => newL v.2 v.1
noncomputable def kev2 (v : MV) : List MV × MH → Option (List MV × MH) := fun b => some (v :: b.1, b.2)
noncomputable def kev (r : List MX) (L : Loc) : MV × MH → Option (List MV × MH) := fun a => (evs (ev P n d) r L a.2).bind (kev2 a.1)
noncomputable def keo : MV × MH → Option (Option MV × MH) := fun a => some (some a.1, a.2)
noncomputable def kfn (f : Nat) (k : Nat) : List MV × MH → Option (MV × MH) := fun v => (ev P n d).c (.fn f) (.ref k :: v.1) v.2
noncomputable def kmm (as : List MX) (L : Loc) (k : Nat) (H : MH) : Nat → Option (MV × MH) := fun f => if (P.fns f).isSome = true then (evs (ev P n d) as L H).bind (kfn P n d f k) else none
noncomputable def kml (k x : Nat) : List MV × MH → Option (MV × MH) := fun v => (v.2.get k).bind (kml2 k x v.1 v.2)
noncomputable def kmd (k x : Nat) : List MV × MH → Option (MV × MH) := fun v => (v.2.get k).bind (kmd2 x v.1 v.2)
noncomputable def kme2 (x : Nat) (as : List MX) (L : Loc) (H : MH) : Nat → Option (MV × MH) := fun k => (H.get k).bind (kmo P (ev P n d) x as L k H)
noncomputable def kme (x : Nat) (as : List MX) (L : Loc) : MV × MH → Option (MV × MH) := fun u => (asRef u.1).bind (kme2 P n d x as L u.2)
noncomputable def ktn : Bool × MH → Option (Bool × MH) := fun u => some (!u.1, u.2)
noncomputable def ktif (a b : MX) (L : Loc) : Bool × MH → Option (Bool × MH) := fun u => match u.1 with | true => (ev P n d).t a L u.2 | false => (ev P n d).t b L u.2
noncomputable def ktc3 (H : MH) : Bool → Option (Bool × MH) := fun r => some (r, H)
noncomputable def ktc2 (op : Co) (u : MV) : MV × MH → Option (Bool × MH) := fun v => (compare op u v.1 v.2).bind (ktc3 v.2)
noncomputable def ktc1 (op : Co) (b : MX) (L : Loc) : MV × MH → Option (Bool × MH) := fun u => ((ev P n d).x b L u.2).bind (ktc2 op u.1)
noncomputable def ktd2 (op' : Co) (v : MV) : MV × MH → Option (Bool × MH) := fun w => (compare op' v w.1 w.2).bind (ktc3 w.2)
noncomputable def ktd1 (op' : Co) (v : MV) (c : MX) (L : Loc) (H : MH) : Bool → Option (Bool × MH) := fun r => match r with
  | true => ((ev P n d).x c L H).bind (ktd2 op' v)
  | false => some (false, H)
noncomputable def ktd0' (op : Co) (u : MV) (op' : Co) (c : MX) (L : Loc) : MV × MH → Option (Bool × MH) := fun v => (compare op u v.1 v.2).bind (ktd1 P n d op' v.1 c L v.2)
noncomputable def ktd0 (op : Co) (b : MX) (op' : Co) (c : MX) (L : Loc) : MV × MH → Option (Bool × MH) := fun u => ((ev P n d).x b L u.2).bind (ktd0' P n d op u.1 op' c L)
noncomputable def kt : MV × MH → Option (Bool × MH) := fun u => (truth u.1 u.2).bind (ktc3 u.2)
noncomputable def kto (c : Bool) (r : List MX) (L : Loc) : Bool × MH → Option (Bool × MH) := fun a => if a.1 = c then tops (ev P n d) c r L a.2 else some (a.1, a.2)
noncomputable def kbo2 (c : Bool) (r : List MX) (L : Loc) (u : MV × MH) : Bool → Option (MV × MH) := fun b => if b = c then bops (ev P n d) c r L u.2 else some u
noncomputable def kbo (c : Bool) (r : List MX) (L : Loc) : MV × MH → Option (MV × MH) := fun a => (truth a.1 a.2).bind (kbo2 P n d c r L a)
noncomputable def kas2 : Loc × MH → Option (Out × Loc × MH) := fun r => some (.nxt, r.1, r.2)
noncomputable def kas (t : MT) (L : Loc) : MV × MH → Option (Out × Loc × MH) := fun u => (put P (ev P n d) t u.1 L u.2).bind kas2
noncomputable def kwh (c : MX) (b : List MS) (L : Loc) : Bool × MH → Option (Out × Loc × MH) := fun u => match u.1 with | true => (stmts (ev P n d) b L u.2).bind (kst ((ev P n d).s (.whl c b))) | false => some (.nxt, L, u.2)
noncomputable def ksi (a b : List MS) (L : Loc) : Bool × MH → Option (Out × Loc × MH) := fun u => match u.1 with | true => stmts (ev P n d) a L u.2 | false => stmts (ev P n d) b L u.2
noncomputable def kfo (t : MT) (b : List MS) (L : Loc) : It × MH → Option (Out × Loc × MH) := fun i => if tupOk t i.1 then (ev P n d).l t i.1 b L i.2 else none
noncomputable def kau (x : Nat) (op : Op) (e : MX) (L : Loc) (H : MH) : MV → Option (Out × Loc × MH) := fun a => ((ev P n d).x e L H).bind (kau2 x op a L)
noncomputable def krt (L : Loc) : MV × MH → Option (Out × Loc × MH) := fun u => some (.ret u.1, L, u.2)
noncomputable def kex (L : Loc) : MV × MH → Option (Out × Loc × MH) := fun u => some (.nxt, L, u.2)
noncomputable def klo2 (t : MT) (it : It) (b : List MS) : Loc × MH → Option (Out × Loc × MH) := fun q => (stmts (ev P n d) b q.1 q.2).bind (klo3 (ev P n d) t it b)
noncomputable def klo (t : MT) (b : List MS) (L : Loc) (H : MH) : Option (MV × It) → Option (Out × Loc × MH) := fun r => match r with
  | none => some (.nxt, L, H)
  | some (v, it') => (put P (ev P n d) t v L H).bind (klo2 P n d t it' b)
noncomputable def kpu2 (ts : List MT) (vs : List MV) : Loc × MH → Option (Loc × MH) := fun a => puts P (ev P n d) ts vs a.1 a.2
noncomputable def kpi3 (L : Loc) : MH → Option (Loc × MH) := fun H' => some (L, H')
noncomputable def kpi2 (v : MV) (L : Loc) (o : MV) : MV × MH → Option (Loc × MH) := fun j => (setItem j.2 o j.1 v).bind (kpi3 L)
noncomputable def kpi (i : MX) (v : MV) (L : Loc) : MV × MH → Option (Loc × MH) := fun o => ((ev P n d).x i L o.2).bind (kpi2 v L o.1)
noncomputable def kpa (x : Nat) (v : MV) (L : Loc) : MV × MH → Option (Loc × MH) := fun o => (setAttr P o.2 o.1 x v).bind (kpi3 L)
noncomputable def kir2 (H : MH) : It → Option (It × MH) := fun i => some (i, H)
noncomputable def kir : List MV × MH → Option (It × MH) := fun a => (rangeOf a.1).bind (kir2 a.2)
noncomputable def kie4 (H : MH) : Nat → Option (It × MH) := fun k => (H.get k).bind (kie2 k H)
noncomputable def kie3 (H : MH) : MV → Option (It × MH) := fun v => (asRef v).bind (kie4 H)
noncomputable def kie : List MV × MH → Option (It × MH) := fun a => one a.1 (kie3 a.2)
noncomputable def kip : MV × MH → Option (It × MH) := fun a => (iterOf a.2 a.1).bind (kir2 a.2)
variable {P n d} {L : Loc} {H : MH}
theorem zdH {α β : Type} (a : α) (f : α → Option β) : (some a).bind f = f a := id rfl
theorem zdI {α β : Type} (f : α → Option β) : (none : Option α).bind f = none := id rfl
theorem zdJ (v : MV) : (ev P (n + 1) d).x (.cst v) L H = some (v, H) := id rfl
theorem zdK (x : Nat) : (ev P (n + 1) d).x (.loc x) L H = (zhh x L).bind (kv H) := id rfl
theorem zdL (x : Nat) : (ev P (n + 1) d).x (.glb x) L H = (P.glb x).bind (kv H) := id rfl
theorem zdM (op : Op) (a b : MX) : (ev P (n + 1) d).x (.bin op a b) L H = ((ev P n d).x a L H).bind (kb1 P n d op b L) := id rfl
theorem zdN (a : MX) : (ev P (n + 1) d).x (.neg a) L H = ((ev P n d).x a L H).bind kng := id rfl
theorem zdO (a : MX) : (ev P (n + 1) d).x (.not a) L H = ((ev P n d).x a L H).bind knt := id rfl
theorem zdP (c : Bool) (es : List MX) : (ev P (n + 1) d).x (.bop c es) L H = bops (ev P n d) c es L H := id rfl
theorem zdQ (a : MX) (op : Co) (b : MX) : (ev P (n + 1) d).x (.cmp a op b) L H = ((ev P n d).x a L H).bind (kc1 P n d op b L) := id rfl
theorem zc2 (a : MX) (op : Co) (b : MX) (op' : Co) (c : MX) : (ev P (n + 1) d).x (.cmp2 a op b op' c) L H = ((ev P n d).x a L H).bind (kd0 P n d op b op' c L) := id rfl
theorem zdR (c a b : MX) : (ev P (n + 1) d).x (.ife c a b) L H = ((ev P n d).t c L H).bind (kif P n d a b L) := id rfl
theorem zdS (a : MX) (x : Nat) : (ev P (n + 1) d).x (.att a x) L H = ((ev P n d).x a L H).bind (kat P x) := id rfl
theorem zdT (a i : MX) : (ev P (n + 1) d).x (.sub a i) L H = ((ev P n d).x a L H).bind (ksb P n d i L) := id rfl
theorem zdU (a : MX) (lo hi : Option MX) : (ev P (n + 1) d).x (.slc a lo hi) L H = ((ev P n d).x a L H).bind (ksl P n d lo hi L) := id rfl
theorem zc3 (f : MX) (as : List MX) : (ev P (n + 1) d).x (.call f as) L H = ((ev P n d).x f L H).bind (kca P n d as L) := id rfl
theorem zdV (o : MX) (x : Nat) (as : List MX) : (ev P (n + 1) d).x (.mth o x as) L H = ((ev P n d).x o L H).bind (kme P n d x as L) := id rfl
theorem zdW (es : List MX) : (ev P (n + 1) d).x (.tup es) L H = (evs (ev P n d) es L H).bind ktu := id rfl
theorem zdX (es : List MX) : (ev P (n + 1) d).x (.lst es) L H = (evs (ev P n d) es L H).bind kls := id rfl
theorem zdY : (ev P (n + 1) d).x .dct L H = some (.ref H.next, H.new (.dict [])) := id rfl
theorem zc4 (e : MX) (t : CT) (it : MX) (ifs : List MX) : (ev P (n + 1) d).x (.cmpr e t it ifs) L H = evC P (ev P n d) e t it ifs L H := id rfl
theorem zfP : evs (ev P n d) [] L H = some ([], H) := id rfl
theorem zfQ (e : MX) (r : List MX) : evs (ev P n d) (e :: r) L H = ((ev P n d).x e L H).bind (kev P n d r L) := id rfl
theorem zfR : evo (ev P n d) none L H = some (none, H) := id rfl
theorem zfS (e : MX) : evo (ev P n d) (some e) L H = ((ev P n d).x e L H).bind keo := id rfl
theorem zdZ (c : Bool) (e : MX) : bops (ev P n d) c [e] L H = (ev P n d).x e L H := id rfl
theorem zd0 (c : Bool) (e g : MX) (r : List MX) : bops (ev P n d) c (e :: g :: r) L H = ((ev P n d).x e L H).bind (kbo P n d c (g :: r) L) := id rfl
theorem zd1 (c : Bool) : tops (ev P n d) c [] L H = some (c, H) := id rfl
theorem zd2 (c : Bool) (e : MX) (r : List MX) : tops (ev P n d) c (e :: r) L H = ((ev P n d).t e L H).bind (kto P n d c r L) := id rfl
theorem zd3 (a : MX) : (ev P (n + 1) d).t (.not a) L H = ((ev P n d).t a L H).bind ktn := id rfl
theorem zd4 (c : Bool) (es : List MX) : (ev P (n + 1) d).t (.bop c es) L H = tops (ev P n d) c es L H := id rfl
theorem zd5 (c a b : MX) : (ev P (n + 1) d).t (.ife c a b) L H = ((ev P n d).t c L H).bind (ktif P n d a b L) := id rfl
theorem zd6 (a : MX) (op : Co) (b : MX) : (ev P (n + 1) d).t (.cmp a op b) L H = ((ev P n d).x a L H).bind (ktc1 P n d op b L) := id rfl
theorem zc5 (a : MX) (op : Co) (b : MX) (op' : Co) (c : MX) : (ev P (n + 1) d).t (.cmp2 a op b op' c) L H = ((ev P n d).x a L H).bind (ktd0 P n d op b op' c L) := id rfl
theorem zc6 (f : MX) (as : List MX) : (ev P (n + 1) d).t (.call f as) L H = ((ev P n d).x (.call f as) L H).bind kt := id rfl
theorem zd7 (o : MX) (x : Nat) (as : List MX) : (ev P (n + 1) d).t (.mth o x as) L H = ((ev P n d).x (.mth o x as) L H).bind kt := id rfl
theorem zd8 (x : Nat) : (ev P (n + 1) d).t (.loc x) L H = ((ev P n d).x (.loc x) L H).bind kt := id rfl
theorem zd9 (v : MV) : (ev P (n + 1) d).t (.cst v) L H = ((ev P n d).x (.cst v) L H).bind kt := id rfl
theorem zea (t : MT) (e : MX) : (ev P (n + 1) d).s (.asg t e) L H = ((ev P n d).x e L H).bind (kas P n d t L) := id rfl
theorem zeb (c : MX) (a b : List MS) : (ev P (n + 1) d).s (.ife c a b) L H = ((ev P n d).t c L H).bind (ksi P n d a b L) := id rfl
theorem zec (t : MT) (it : MX) (b : List MS) : (ev P (n + 1) d).s (.for_ t it b) L H = (evI P (ev P n d) it L H).bind (kfo P n d t b L) := id rfl
theorem es_whl (c : MX) (b : List MS) : (ev P (n + 1) d).s (.whl c b) L H = ((ev P n d).t c L H).bind (kwh P n d c b L) := id rfl
theorem zed (x : Nat) (op : Op) (e : MX) : (ev P (n + 1) d).s (.aug x op e) L H = (zhh x L).bind (kau P n d x op e L H) := id rfl
theorem zc7 (e : MX) : (ev P (n + 1) d).s (.ret (some e)) L H = ((ev P n d).x e L H).bind (krt L) := id rfl
theorem zc8 : (ev P (n + 1) d).s (.ret none) L H = some (.ret .none, L, H) := id rfl
theorem zee (e : MX) : (ev P (n + 1) d).s (.exp e) L H = ((ev P n d).x e L H).bind (kex L) := id rfl
theorem zhd : stmts (ev P n d) [] L H = some (.nxt, L, H) := id rfl
theorem zhe (s : MS) (r : List MS) : stmts (ev P n d) (s :: r) L H = ((ev P n d).s s L H).bind (kst (stmts (ev P n d) r)) := id rfl
theorem zc9 (k : Loc → MH → Option (Out × Loc × MH)) : kst k (.nxt, L, H) = k L H := id rfl
theorem zda (k : Loc → MH → Option (Out × Loc × MH)) (v : MV) : kst k (.ret v, L, H) = some (.ret v, L, H) := id rfl
theorem zdb (t : MT) (i s : Int) (b : List MS) : (ev P (n + 1) d).l t (.rng i s 0) b L H = some (.nxt, L, H) := id rfl
theorem zdc (t : MT) (i s : Int) (k : Nat) (b : List MS) : (ev P (n + 1) d).l t (.rng i s (k + 1)) b L H = (put P (ev P n d) t (.int i) L H).bind (klo2 P n d t (.rng (i + s) s k) b) := id rfl
theorem zdd (t : MT) (b : List MS) : (ev P (n + 1) d).l t (.tup []) b L H = some (.nxt, L, H) := id rfl
theorem zde (t : MT) (v : MV) (r : List MV) (b : List MS) : (ev P (n + 1) d).l t (.tup (v :: r)) b L H = (put P (ev P n d) t v L H).bind (klo2 P n d t (.tup r) b) := id rfl
theorem el_it (t : MT) (it : It) (b : List MS) : (ev P (n + 1) d).l t it b L H = (it.next H).bind (klo P n d t b L H) := id rfl
theorem zfT (t : MT) (b : List MS) : klo P n d t b L H none = some (.nxt, L, H) := id rfl
theorem zfU (t : MT) (b : List MS) (v : MV) (it : It) : klo P n d t b L H (some (v, it)) = (put P (ev P n d) t v L H).bind (klo2 P n d t it b) := id rfl
theorem zfV (t : MT) (it : It) (b : List MS) : klo2 P n d t it b (L, H) = (stmts (ev P n d) b L H).bind (klo3 (ev P n d) t it b) := id rfl
theorem zef (t : MT) (it : It) (b : List MS) : klo3 (ev P n d) t it b (.nxt, L, H) = (ev P n d).l t it b L H := id rfl
theorem zeg (t : MT) (it : It) (b : List MS) (v : MV) : klo3 (ev P n d) t it b (.ret v, L, H) = some (.ret v, L, H) := id rfl
theorem zdf (x : Nat) (v : MV) : put P (ev P n d) (.nam x) v L H = some (zhi x v L, H) := by rw [put]
theorem zdg (ts : List MT) (vs : List MV) : put P (ev P n d) (.tup ts) (.tup vs) L H = puts P (ev P n d) ts vs L H := by rw [put]; rfl
theorem zdh (a i : MX) (v : MV) : put P (ev P n d) (.sub a i) v L H = ((ev P n d).x a L H).bind (kpi P n d i v L) := by rw [put]; rfl
theorem zdi (a : MX) (x : Nat) (v : MV) : put P (ev P n d) (.att a x) v L H = ((ev P n d).x a L H).bind (kpa P x v L) := by rw [put]; rfl
theorem zeh : puts P (ev P n d) [] [] L H = some (L, H) := by rw [puts]
theorem zei (t : MT) (ts : List MT) (v : MV) (vs : List MV) : puts P (ev P n d) (t :: ts) (v :: vs) L H = (put P (ev P n d) t v L H).bind (kpu2 P n d ts vs) := by rw [puts]; rfl
theorem ec_fn (f : Nat) (as : List MV) : (ev P (n + 1) (d + 1)).c (.fn f) as H = callF P (ev P n d) f as H := id rfl
theorem ec_bm (k f : Nat) (as : List MV) : (ev P (n + 1) (d + 1)).c (.bm k f) as H = callF P (ev P n d) f (.ref k :: as) H := id rfl
theorem zfW (b : BI) (as : List MV) : (ev P (n + 1) d).c (.bi b) as H = callB b as H := id rfl
theorem ec_cls (c : Nat) (as : List MV) {f : Nat} (hf : P.meth c (cd "__init__") = some f) : (ev P (n + 1) (d + 1)).c (.cls c) as H = (callF P (ev P n d) f (.ref (H.next + 1) :: as) ((H.new (.dict [])).new (.inst c H.next))).bind (kin (H.next + 1)) := by
  show (P.meth c (cd "__init__")).bind _ = _
  rw [hf]
  rfl
theorem callF_ (f : Nat) (F : MF) (as : List MV) (hf : P.fns f = some F) (hl : F.params.length = as.length) (hb : F.body.isEmpty = false) : callF P (ev P n d) f as H = (stmts (ev P n d) F.body (F.params.zip as) H).bind krF := by
  unfold callF
  rw [hf]
  show (if _ then _ else _) = _
  rw [if_pos ⟨hl, hb⟩]
theorem zfX (v : MV) : krF (.ret v, L, H) = some (v, H) := id rfl
theorem zfY : krF (.nxt, L, H) = some (.none, H) := id rfl
theorem zcO (f : Nat) (as : List MX) (h : P.glb f = some (.bi .range)) : evI P (ev P n d) (.call (.glb f) as) L H = (evs (ev P n d) as L H).bind kir := by
  show (P.glb f).bind _ = _
  rw [h]; rfl
theorem evI_enum (f : Nat) (as : List MX) (h : P.glb f = some (.bi .enum)) : evI P (ev P n d) (.call (.glb f) as) L H = (evs (ev P n d) as L H).bind kie := by
  show (P.glb f).bind _ = _
  rw [h]
  rfl
theorem zdj (x : Nat) : evI P (ev P n d) (.loc x) L H = ((ev P n d).x (.loc x) L H).bind kip := id rfl
theorem zdk (a : MX) (x : Nat) : evI P (ev P n d) (.att a x) L H = ((ev P n d).x (.att a x) L H).bind kip := id rfl
theorem zdl (a i : MX) : evI P (ev P n d) (.sub a i) L H = ((ev P n d).x (.sub a i) L H).bind kip := id rfl
theorem zdm (es : List MX) : evI P (ev P n d) (.tup es) L H = ((ev P n d).x (.tup es) L H).bind kip := id rfl
theorem zdn (v : MV) : evI P (ev P n d) (.cst v) L H = ((ev P n d).x (.cst v) L H).bind kip := id rfl
theorem nb (a b : Nat) : Nat.beq a b = decide (a = b) := by
  by_cases h : a = b
  · rw [h]; simp
  · cases e : Nat.beq a b with
    | true => exact absurd (Nat.eq_of_beq_eq_true e) h
    | false => rw [decide_eq_false h]
theorem zfZ (x : Nat) (as : List MX) (k c dd : Nat) : kmo P (ev P n d) x as L k H (.inst c dd) = (katd H (.inst c dd)).bind (kmi P (ev P n d) as L k x H) := id rfl
theorem zej (c dd : Nat) : katd H (.inst c dd) = (H.get dd).bind (katd2 c dd) := id rfl
theorem zdo (c dd : Nat) (es : List (MV × MV)) : katd2 c dd (.dict es) = some (c, dd, es) := id rfl
theorem zek (x : Nat) (as : List MX) (k c dd : Nat) (es : List (MV × MV)) : kmi P (ev P n d) as L k x H (c, dd, es) = if okKey (.str x) es = true ∧ dGet (.str x) es = none then (P.meth c x).bind (kmm P n d as L k H) else none := id rfl
theorem zf0 (x : Nat) (as : List MX) (k : Nat) (vs : List MV) : kmo P (ev P n d) x as L k H (.list vs) = (evs (ev P n d) as L H).bind (kml k x) := id rfl
theorem zf1 (x : Nat) (as : List MX) (k : Nat) (es : List (MV × MV)) : kmo P (ev P n d) x as L k H (.dict es) = (evs (ev P n d) as L H).bind (kmd k x) := id rfl
theorem zdp (k x : Nat) (vs vs' : List MV) : kml2 k x vs H (.list vs') = callL H k vs' x vs := id rfl
theorem zdq (x : Nat) (vs : List MV) (es : List (MV × MV)) : kmd2 x vs H (.dict es) = callD H es x vs := id rfl
theorem zdr (x : Nat) (op : Op) (i j : Int) : kau2 x op (.int i) L (.int j, H) = if op = .add then some (.nxt, zhi x (.int (i + j)) L, H) else none := id rfl
theorem zel {α : Type} (a : MV) (k : MV → Option α) : one [a] k = k a := id rfl
theorem zem {α : Type} (a b : MV) (k : MV → MV → Option α) : two [a, b] k = k a b := id rfl
theorem zen (k : Nat) : kin k (.none, H) = some (.ref k, H) := id rfl
theorem zeo (k : Nat) (vs : List MV) : kie2 k H (.list vs) = some (.enu 0 k, H) := id rfl
theorem zds (i : Int) : asInt (.int i) = some i := id rfl
theorem zdt (k : Nat) : asRef (.ref k) = some k := id rfl
theorem zdu (vs : List MV) : asTup (.tup vs) = some vs := id rfl
end
end Mn
end
section
set_option maxRecDepth 100000
namespace Mn
section
variable {P : Pg} {n d : Nat}
theorem zf2 (op : Op) (u : MV) (v : MV × MH) : kb2 op u v = (binop op u v.1 v.2) := id rfl
theorem zf3 (op : Op) (b : MX) (L : Loc) (u : MV × MH) : kb1 P n d op b L u = (((ev P n d).x b L u.2).bind (kb2 op u.1)) := id rfl
theorem zep (H : MH) (i : Int) : kng2 H i = (some (.int (-i), H)) := id rfl
theorem zf4 (u : MV × MH) : kng  u = ((asInt u.1).bind (kng2 u.2)) := id rfl
theorem zeq (H : MH) (b : Bool) : knt2 H b = (some (.bool (!b), H)) := id rfl
theorem zf5 (u : MV × MH) : knt  u = ((truth u.1 u.2).bind (knt2 u.2)) := id rfl
theorem zf6 (H : MH) (r : Bool) : kc3 H r = (some (.bool r, H)) := id rfl
theorem zf7 (op : Co) (u : MV) (v : MV × MH) : kc2 op u v = ((compare op u v.1 v.2).bind (kc3 v.2)) := id rfl
theorem zf8 (op : Co) (b : MX) (L : Loc) (u : MV × MH) : kc1 P n d op b L u = (((ev P n d).x b L u.2).bind (kc2 op u.1)) := id rfl
theorem zf9 (op' : Co) (v : MV) (w : MV × MH) : kd2 op' v w = ((compare op' v w.1 w.2).bind (kc3 w.2)) := id rfl
theorem zga (op' : Co) (v : MV) (c : MX) (L : Loc) (H : MH) (r : Bool) : kd1 P n d op' v c L H r = (match r with
  | true => ((ev P n d).x c L H).bind (kd2 op' v)
  | false => some (.bool false, H)) := id rfl
theorem zer (op : Co) (u : MV) (op' : Co) (c : MX) (L : Loc) (v : MV × MH) : kd0' P n d op u op' c L v = ((compare op u v.1 v.2).bind (kd1 P n d op' v.1 c L v.2)) := id rfl
theorem zgb (op : Co) (b : MX) (op' : Co) (c : MX) (L : Loc) (u : MV × MH) : kd0 P n d op b op' c L u = (((ev P n d).x b L u.2).bind (kd0' P n d op u.1 op' c L)) := id rfl
theorem zgc (a b : MX) (L : Loc) (u : Bool × MH) : kif P n d a b L u = (match u.1 with | true => (ev P n d).x a L u.2 | false => (ev P n d).x b L u.2) := id rfl
theorem zgd (x : Nat) (u : MV × MH) : kat P x u = ((attr P u.2 u.1 x).bind (kv u.2)) := id rfl
theorem zes (u : MV) (v : MV × MH) : ksb2 u v = ((item v.2 u v.1).bind (kv v.2)) := id rfl
theorem zge (i : MX) (L : Loc) (u : MV × MH) : ksb P n d i L u = (((ev P n d).x i L u.2).bind (ksb2 u.1)) := id rfl
theorem zet (u : MV) (lo : Option MV) (w : Option MV × MH) : ksl3 u lo w = (slice w.2 u lo w.1) := id rfl
theorem zeu (u : MV) (hi : Option MX) (L : Loc) (v : Option MV × MH) : ksl2 P n d u hi L v = ((evo (ev P n d) hi L v.2).bind (ksl3 u v.1)) := id rfl
theorem zgf (lo hi : Option MX) (L : Loc) (u : MV × MH) : ksl P n d lo hi L u = ((evo (ev P n d) lo L u.2).bind (ksl2 P n d u.1 hi L)) := id rfl
theorem zev (f : MV) (v : List MV × MH) : kca2 P n d f v = ((ev P n d).c f v.1 v.2) := id rfl
theorem zgg (as : List MX) (L : Loc) (u : MV × MH) : kca P n d as L u = (if okFn P u.1 = true then (evs (ev P n d) as L u.2).bind (kca2 P n d u.1) else none) := id rfl
theorem zgh (v : List MV × MH) : ktu  v = (if v.1.length ≤ lim then some (.tup v.1, v.2) else none) := id rfl
theorem zgi (v : List MV × MH) : kls  v = (newL v.2 v.1) := id rfl
theorem zew (v : MV) (b : List MV × MH) : kev2 v b = (some (v :: b.1, b.2)) := id rfl
theorem zgj (r : List MX) (L : Loc) (a : MV × MH) : kev P n d r L a = ((evs (ev P n d) r L a.2).bind (kev2 a.1)) := id rfl
theorem zgk (a : MV × MH) : keo  a = (some (some a.1, a.2)) := id rfl
theorem zgl (f : Nat) (k : Nat) (v : List MV × MH) : kfn P n d f k v = ((ev P n d).c (.fn f) (.ref k :: v.1) v.2) := id rfl
theorem zgm (as : List MX) (L : Loc) (k : Nat) (H : MH) (f : Nat) : kmm P n d as L k H f = (if (P.fns f).isSome = true then (evs (ev P n d) as L H).bind (kfn P n d f k) else none) := id rfl
theorem zgn (k x : Nat) (v : List MV × MH) : kml k x v = ((v.2.get k).bind (kml2 k x v.1 v.2)) := id rfl
theorem zgo (k x : Nat) (v : List MV × MH) : kmd k x v = ((v.2.get k).bind (kmd2 x v.1 v.2)) := id rfl
theorem zex (x : Nat) (as : List MX) (L : Loc) (H : MH) (k : Nat) : kme2 P n d x as L H k = ((H.get k).bind (kmo P (ev P n d) x as L k H)) := id rfl
theorem kme_e (x : Nat) (as : List MX) (L : Loc) (u : MV × MH) : kme P n d x as L u = ((asRef u.1).bind (kme2 P n d x as L u.2)) := id rfl
theorem zgp (u : Bool × MH) : ktn  u = (some (!u.1, u.2)) := id rfl
theorem zey (a b : MX) (L : Loc) (u : Bool × MH) : ktif P n d a b L u = (match u.1 with | true => (ev P n d).t a L u.2 | false => (ev P n d).t b L u.2) := id rfl
theorem zez (H : MH) (r : Bool) : ktc3 H r = (some (r, H)) := id rfl
theorem zeA (op : Co) (u : MV) (v : MV × MH) : ktc2 op u v = ((compare op u v.1 v.2).bind (ktc3 v.2)) := id rfl
theorem zeB (op : Co) (b : MX) (L : Loc) (u : MV × MH) : ktc1 P n d op b L u = (((ev P n d).x b L u.2).bind (ktc2 op u.1)) := id rfl
theorem zeC (op' : Co) (v : MV) (w : MV × MH) : ktd2 op' v w = ((compare op' v w.1 w.2).bind (ktc3 w.2)) := id rfl
theorem zeD (op' : Co) (v : MV) (c : MX) (L : Loc) (H : MH) (r : Bool) : ktd1 P n d op' v c L H r = (match r with
  | true => ((ev P n d).x c L H).bind (ktd2 op' v)
  | false => some (false, H)) := id rfl
theorem zdv (op : Co) (u : MV) (op' : Co) (c : MX) (L : Loc) (v : MV × MH) : ktd0' P n d op u op' c L v = ((compare op u v.1 v.2).bind (ktd1 P n d op' v.1 c L v.2)) := id rfl
theorem zeE (op : Co) (b : MX) (op' : Co) (c : MX) (L : Loc) (u : MV × MH) : ktd0 P n d op b op' c L u = (((ev P n d).x b L u.2).bind (ktd0' P n d op u.1 op' c L)) := id rfl
theorem zhf (u : MV × MH) : kt  u = ((truth u.1 u.2).bind (ktc3 u.2)) := id rfl
theorem zgq (c : Bool) (r : List MX) (L : Loc) (a : Bool × MH) : kto P n d c r L a = (if a.1 = c then tops (ev P n d) c r L a.2 else some (a.1, a.2)) := id rfl
theorem zeF (c : Bool) (r : List MX) (L : Loc) (u : MV × MH) (b : Bool) : kbo2 P n d c r L u b = (if b = c then bops (ev P n d) c r L u.2 else some u) := id rfl
theorem zgr (c : Bool) (r : List MX) (L : Loc) (a : MV × MH) : kbo P n d c r L a = ((truth a.1 a.2).bind (kbo2 P n d c r L a)) := id rfl
theorem zeG (r : Loc × MH) : kas2  r = (some (.nxt, r.1, r.2)) := id rfl
theorem zgs (t : MT) (L : Loc) (u : MV × MH) : kas P n d t L u = ((put P (ev P n d) t u.1 L u.2).bind kas2) := id rfl
theorem zgt (a b : List MS) (L : Loc) (u : Bool × MH) : ksi P n d a b L u = (match u.1 with | true => stmts (ev P n d) a L u.2 | false => stmts (ev P n d) b L u.2) := id rfl
theorem zgu (t : MT) (b : List MS) (L : Loc) (i : It × MH) : kfo P n d t b L i = (if tupOk t i.1 then (ev P n d).l t i.1 b L i.2 else none) := id rfl
theorem zgv (x : Nat) (op : Op) (e : MX) (L : Loc) (H : MH) (a : MV) : kau P n d x op e L H a = (((ev P n d).x e L H).bind (kau2 x op a L)) := id rfl
theorem zgw (L : Loc) (u : MV × MH) : krt L u = (some (.ret u.1, L, u.2)) := id rfl
theorem zgx (L : Loc) (u : MV × MH) : kex L u = (some (.nxt, L, u.2)) := id rfl
theorem zeH (ts : List MT) (vs : List MV) (a : Loc × MH) : kpu2 P n d ts vs a = (puts P (ev P n d) ts vs a.1 a.2) := id rfl
theorem zeI (L : Loc) (H' : MH) : kpi3 L H' = (some (L, H')) := id rfl
theorem zeJ (v : MV) (L : Loc) (o : MV) (j : MV × MH) : kpi2 v L o j = ((setItem j.2 o j.1 v).bind (kpi3 L)) := id rfl
theorem zgy (i : MX) (v : MV) (L : Loc) (o : MV × MH) : kpi P n d i v L o = (((ev P n d).x i L o.2).bind (kpi2 v L o.1)) := id rfl
theorem zgz (x : Nat) (v : MV) (L : Loc) (o : MV × MH) : kpa P x v L o = ((setAttr P o.2 o.1 x v).bind (kpi3 L)) := id rfl
theorem zeK (H : MH) (i : It) : kir2 H i = (some (i, H)) := id rfl
theorem zgA (a : List MV × MH) : kir  a = ((rangeOf a.1).bind (kir2 a.2)) := id rfl
theorem zeL (H : MH) (k : Nat) : kie4 H k = ((H.get k).bind (kie2 k H)) := id rfl
theorem zeM (H : MH) (v : MV) : kie3 H v = ((asRef v).bind (kie4 H)) := id rfl
theorem zgB (a : List MV × MH) : kie  a = (one a.1 (kie3 a.2)) := id rfl
theorem zgC (a : MV × MH) : kip  a = ((iterOf a.2 a.1).bind (kir2 a.2)) := id rfl
end
theorem zhg (H : MH) (v : MV) : kv H v = some (v, H) := rfl
theorem MNn (a b : Nat) : Nat.beq a b = decide (a = b) := nb a b
theorem zc1 (k : Nat) : Int.natAbs (no_index (OfNat.ofNat k)) = k := rfl
end Mn
end
section
set_option maxRecDepth 100000
namespace Mn
theorem bq (a b : Nat) : Nat.beq a b = (a == b) := by rw [Bool.eq_iff_iff, beq_iff_eq, Nat.beq_eq]
section
variable (H : MH)
theorem zeO (vs : List MV) (i : Int) : item H (.tup vs) (.int i) = idx vs i := id rfl
theorem zdB (k : Nat) (i : Int) : item H (.ref k) (.int i) = (H.get k).bind (kit (.int i)) := id rfl
theorem zdC (k i : Nat) : item H (.ref k) (.str i) = (H.get k).bind (kit (.str i)) := id rfl
theorem zgD (i : Int) (vs : List MV) : kit (.int i) (.list vs) = idxL vs i := id rfl
theorem zeP (vs : List MV) : idxL vs (-1) = vs.getLast? := if_pos rfl
theorem zeQ (vs : List MV) (k : Nat) : idxL vs (no_index (OfNat.ofNat k)) = idx vs (OfNat.ofNat k) := if_neg (by show ¬ ((k : Int) = -1); omega)
theorem zgE (i : Int) (vs : List MV) : kit (.int i) (.frz vs) = idx vs i := id rfl
theorem zeR (i : Int) (es : List (MV × MV)) : kit (.int i) (.dict es) = if okKey (.int i) es = true then dGet (.int i) es else none := id rfl
theorem zeS (i : Nat) (es : List (MV × MV)) : kit (.str i) (.dict es) = if okKey (.str i) es = true then dGet (.str i) es else none := id rfl
theorem zgF (k : Nat) : listAt H (.ref k) = (H.get k).bind kla := id rfl
theorem zgG (vs : List MV) : kla (.list vs) = some vs := id rfl
theorem zgH (vs : List MV) : kla (.frz vs) = some vs := id rfl
theorem zgI (k : Nat) (lo hi : Option MV) : slice H (.ref k) lo hi = (listAt H (.ref k)).bind (ksx H lo hi) := id rfl
theorem zgJ (lo hi : Option MV) (vs : List MV) : ksx H lo hi vs = if vs.length ≤ 1048576 then (cut vs lo hi).bind (newL H) else none := id rfl
theorem zeT (vs : List MV) (j : Int) : cut vs none (some (.int j)) = if 0 ≤ j then some (vs.take j.toNat) else none := id rfl
theorem zeU (vs : List MV) (j : Int) : cut vs (some (.int j)) none = if 0 ≤ j then some (vs.drop j.toNat) else none := id rfl
theorem zeV (vs : List MV) : newL H vs = if vs.length ≤ 1048576 then some (.ref H.next, H.new (.list vs)) else none := id rfl
theorem zeW (k : Nat) (i : Int) (v : MV) : setItem H (.ref k) (.int i) v = (H.get k).bind (kse H k (.int i) v) := id rfl
theorem zeX (k i : Nat) (v : MV) : setItem H (.ref k) (.str i) v = (H.get k).bind (kse H k (.str i) v) := id rfl
theorem zgK (k : Nat) (i : Int) (v : MV) (vs : List MV) : kse H k (.int i) v (.list vs) = if 0 ≤ i ∧ i < 1073741824 ∧ i.toNat < vs.length then some (H.upd k (.list (vs.set i.toNat v))) else none := id rfl
theorem zeY (k : Nat) (i : Int) (v : MV) (es : List (MV × MV)) : kse H k (.int i) v (.dict es) = if okKey (.int i) es = true ∧ es.length < 1048576 then some (H.upd k (.dict (dPut (.int i) v es))) else none := id rfl
theorem zeZ (k i : Nat) (v : MV) (es : List (MV × MV)) : kse H k (.str i) v (.dict es) = if okKey (.str i) es = true ∧ es.length < 1048576 then some (H.upd k (.dict (dPut (.str i) v es))) else none := id rfl
theorem ze0 (i : Int) (vs : List MV) : contains H (.int i) (.tup vs) = anyEq (.int i) vs := id rfl
theorem ze1 (i : Nat) (vs : List MV) : contains H (.str i) (.tup vs) = anyEq (.str i) vs := id rfl
theorem ze2 (i : Int) (k : Nat) : contains H (.int i) (.ref k) = (H.get k).bind (kco (.int i)) := id rfl
theorem ze3 (i k : Nat) : contains H (.str i) (.ref k) = (H.get k).bind (kco (.str i)) := id rfl
theorem zgL (x : MV) (es : List (MV × MV)) : kco x (.dict es) = if okKey x es = true then some (dGet x es).isSome else none := id rfl
noncomputable def kany2 (b : Bool) : Bool → Option Bool := fun c => some (b || c)
noncomputable def kany (x : MV) (r : List MV) : Bool → Option Bool := fun b => (anyEq x r).bind (kany2 b)
theorem zgM (x : MV) : anyEq x [] = some false := id rfl
theorem zgN (x y : MV) (r : List MV) : anyEq x (y :: r) = (feq 6 y x).bind (kany x r) := id rfl
theorem ze4 (x : MV) (r : List MV) (b : Bool) : kany x r b = (anyEq x r).bind (kany2 b) := id rfl
theorem zdD (b c : Bool) : kany2 b c = some (b || c) := id rfl
theorem zgO (b : Bool) : truth (.bool b) H = some b := id rfl
noncomputable def kneg : Bool → Option Bool := fun x => some (!x)
theorem ze5 (b : Bool) : kneg b = some (!b) := id rfl
theorem ze6 (a b : MV) : compare .eq a b H = meq H a b := id rfl
theorem ze7 (a b : MV) : compare .ne a b H = tne H a b := id rfl
theorem zgP (a : Int) (b : MV) : tne H (.int a) b = (meq H (.int a) b).bind kneg := id rfl
theorem zgQ (a : Nat) (b : MV) : tne H (.str a) b = (meq H (.str a) b).bind kneg := id rfl
theorem zgR (a : Nat) (b : MV) : tne H (.ref a) b = (meq H (.ref a) b).bind kneg := id rfl
theorem zgS (b : MV) : tne H .none b = (meq H .none b).bind kneg := id rfl
noncomputable def kfal : Bool → Option Bool := fun _ => some false
theorem ze8 (b : Bool) : kfal b = some false := id rfl
theorem zgT (a b : List MV) : tne H (.tup a) (.tup b) = (smL H a b).bind kfal := id rfl
theorem ze9 (n : Nat) (a : Int) (b : Nat) : feq (n + 1) (.int a) (.str b) = some false := id rfl
theorem zfa (n a : Nat) (b : Int) : feq (n + 1) (.str a) (.int b) = some false := id rfl
theorem zfb (a b : Int) : compare .lt (.int a) (.int b) H = some (decide (a < b)) := id rfl
theorem zfc (a b : Int) : compare .le (.int a) (.int b) H = some (decide (a ≤ b)) := id rfl
theorem zfd (a b : Int) : compare .gt (.int a) (.int b) H = some (decide (a > b)) := id rfl
theorem zfe (a b : Int) : compare .ge (.int a) (.int b) H = some (decide (a ≥ b)) := id rfl
theorem zff (a b : MV) : compare .inn a b H = contains H a b := id rfl
theorem zdE (a b : MV) : compare .nin a b H = (contains H a b).bind kneg := id rfl
theorem zcT : compare .is .none .none H = some true := id rfl
theorem zcU (i : Int) : compare .is (.int i) .none H = some false := id rfl
theorem zcV (vs : List MV) : compare .is (.tup vs) .none H = some false := id rfl
theorem zcD : compare .isn .none .none H = some false := id rfl
theorem zcE (i : Int) : compare .isn (.int i) .none H = some true := id rfl
theorem zfg (a b : Int) : meq H (.int a) (.int b) = some (decide (a = b)) := id rfl
theorem zfh (a b : Nat) : meq H (.str a) (.str b) = some (a == b) := congrArg some (bq a b)
theorem zfi : meq H .none .none = some true := id rfl
theorem zfj (a : Int) : meq H .none (.int a) = some false := id rfl
theorem zfk (a : Int) : meq H (.int a) .none = some false := id rfl
theorem zgU (u v : List MV) : kl2 u (.list v) = if u.length = v.length then feqL (feq 6) u v else some false := id rfl
theorem zfl (n a b : Nat) : feq (n + 1) (.str a) (.str b) = some (a == b) := congrArg some (bq a b)
theorem zfm (n : Nat) (a b : Int) : feq (n + 1) (.int a) (.int b) = some (decide (a = b)) := id rfl
theorem zfn (n : Nat) (a b : List MV) : feq (n + 1) (.tup a) (.tup b) = feqL (feq n) a b := id rfl
noncomputable def kfl2 (x : Bool) : Bool → Option Bool := fun y => some (x && y)
noncomputable def kfl (f : MV → MV → Option Bool) (l r : List MV) : Bool → Option Bool := fun x => (feqL f l r).bind (kfl2 x)
theorem zgV (f : MV → MV → Option Bool) : feqL f [] [] = some true := id rfl
theorem zgW (f : MV → MV → Option Bool) (a : MV) (l : List MV) : feqL f (a :: l) [] = some false := id rfl
theorem zgX (f : MV → MV → Option Bool) (a : MV) (l : List MV) : feqL f [] (a :: l) = some false := id rfl
theorem zgY (f : MV → MV → Option Bool) (a b : MV) (l r : List MV) : feqL f (a :: l) (b :: r) = (f a b).bind (kfl f l r) := id rfl
theorem zgZ (f : MV → MV → Option Bool) (l r : List MV) (x : Bool) : kfl f l r x = (feqL f l r).bind (kfl2 x) := id rfl
theorem zfo (x y : Bool) : kfl2 x y = some (x && y) := id rfl
theorem zfp (a b : Nat) : meq H (.ref a) (.ref b) = if a = b then none else (H.get a).bind (kl1 H b) := id rfl
theorem zfq (a b : List MV) : meq H (.tup a) (.tup b) = feqL (feq 5) a b := id rfl
theorem zfr (a b : Bool) : meq H (.bool a) (.bool b) = some (a == b) := id rfl
theorem zg0 (b : Nat) (u : List MV) : kl1 H b (.list u) = (H.get b).bind (kl2 u) := id rfl
theorem zg1 (k : Nat) : callB .len [.ref k] H = (H.get k).bind (kle H) := id rfl
theorem zg2 (vs : List MV) : kle H (.list vs) = if vs.length ≤ 1048576 then some (.int vs.length, H) else none := id rfl
theorem zg3 (i : Int) : callB .abs [.int i] H = some (.int i.natAbs, H) := id rfl
theorem zfs (i : Int) : callB .isinst [.int i, .bi .tstr] H = some (.bool false, H) := id rfl
theorem zft (i : Int) : callB .isinst [.int i, .bi .ttup] H = some (.bool false, H) := id rfl
theorem zg4 (i j : Int) : callB .max [.int i, .int j] H = some (.int (if j > i then j else i), H) := id rfl
theorem zfu (r : Int) : kint H r = some (.int r, H) := id rfl
theorem zfv (op : Op) (i j : Int) : binop op (.int i) (.int j) H = (intOp op i j).bind (kint H) := id rfl
theorem zfw (i j : Int) : intOp .add i j = some (i + j) := id rfl
theorem zfx (i j : Int) : intOp .sub i j = some (i - j) := id rfl
theorem zfy (i j : Int) : intOp .mul i j = if i.natAbs < 1073741824 ∧ j.natAbs < 1073741824 then some (i * j) else none := id rfl
theorem zdF (i j : Int) : intOp .fdiv i j = if j = 0 ∨ j.natAbs ≥ 1073741824 then none else some (Int.fdiv i j) := id rfl
theorem zfz (i j : Int) : intOp .mod i j = if j = 0 then none else some (Int.fmod i j) := id rfl
theorem zfA (i j : Int) : intOp .shl i j = if 0 ≤ j ∧ j < 64 ∧ i.natAbs < 1152921504606846976 then some (i * 2 ^ j.toNat) else none := id rfl
theorem zfB (a b : Bool) : binop .sub (.bool a) (.bool b) H = some (.int ((if a then 1 else 0) - (if b then 1 else 0)), H) := id rfl
theorem zfC (a : Int) (b : Bool) : binop .sub (.int a) (.bool b) H = some (.int (a - (if b then 1 else 0)), H) := id rfl
theorem zfD (i j : Nat) : binop .add (.ref i) (.ref j) H = (listAt H (.ref i)).bind (kad H j) := id rfl
theorem zg5 (j : Nat) (u : List MV) : kad H j u = (listAt H (.ref j)).bind (kad2 H u) := id rfl
theorem zfE (u v : List MV) : kad2 H u v = newL H (u ++ v) := id rfl
theorem zg6 (k : Nat) : iterOf H (.ref k) = (listAt H (.ref k)).bind (kio k) := id rfl
theorem zg7 (k : Nat) (vs : List MV) : kio k vs = some (.lst k 0) := id rfl
theorem zg8 (vs : List MV) : iterOf H (.tup vs) = some (.tup vs) := id rfl
theorem zg9 (b : Int) : rangeOf [.int b] = if near b = true then some (.rng 0 1 b.toNat) else none := id rfl
theorem zha (a b : Int) : rangeOf [.int a, .int b] = if (near a && near b) = true then some (.rng a 1 (b - a).toNat) else none := id rfl
theorem zhb (a b c : Int) : rangeOf [.int a, .int b, .int c] = if (near a && near b && decide (c = -1)) = true then some (.rng a (-1) (a - b).toNat) else none := id rfl
theorem zfF (i : Int) : near i = decide (i.natAbs < 1073741824) := id rfl
theorem zfG (P : Pg) (f : Nat) : okFn P (.fn f) = (P.fns f).isSome := id rfl
theorem zfH (P : Pg) (k f : Nat) : okFn P (.bm k f) = (P.fns f).isSome := id rfl
theorem zfI (P : Pg) (b : BI) : okFn P (.bi b) = true := id rfl
theorem zhc (k : Nat) (vs : List MV) (v : MV) : callL H k vs 388610526637668 [v] = if vs.length < 1048576 then some (.none, H.upd k (.list (vs ++ [v]))) else none := by
  have h : (388610526637668 : Nat) = cd "append" := by decide +kernel
  unfold callL
  rw [if_pos h]
  rfl
theorem zfJ (es : List (MV × MV)) (v d : MV) : callD H es 23553396 [v, d] = if okKey v es = true then some ((dGet v es).getD d, H) else none := by
  have h : (23553396 : Nat) = cd "get" := by decide +kernel
  unfold callD
  rw [if_pos h]
theorem zfK (es : List (MV × MV)) (v : MV) : callD H es 23553396 [v] = if okKey v es = true then some ((dGet v es).getD .none, H) else none := by
  have h : (23553396 : Nat) = cd "get" := by decide +kernel
  unfold callD
  rw [if_pos h]
theorem zfL (x : Nat) (i s : Int) (k : Nat) : tupOk (.nam x) (.rng i s k) = true := id rfl
theorem zfM (x k i : Nat) : tupOk (.nam x) (.lst k i) = true := id rfl
theorem zfN (x : Nat) (vs : List MV) : tupOk (.nam x) (.tup vs) = true := id rfl
end
end Mn
end
section
namespace Mn
set_option maxRecDepth 100000
noncomputable def zb8 : MF := { params := [1607952266597], body := [MS.ife (MX.call (MX.glb 1706903273020983629210469) [MX.loc 1607952266597, MX.glb 24343666]) [MS.rai (MX.call (MX.glb 1522399657946512425643890) [MX.cst (MV.str 87117)])] [], MS.ret (some (MX.ife (MX.call (MX.glb 1706903273020983629210469) [MX.loc 1607952266597, MX.glb 1599698136165]) (MX.cmp (MX.sub (MX.loc 1607952266597) (MX.cst (MV.int 0))) (Co.eq) (MX.cst (MV.int 0))) (MX.cmp (MX.loc 1607952266597) (Co.eq) (MX.cst (MV.int 0)))))] }
noncomputable def zcF : MF := { params := [1607952266597], body := [MS.ret (some (MX.not (MX.call (MX.glb 6667588095471287494772) [MX.loc 1607952266597])))] }
noncomputable def zcW : MF := { params := [6013346164, 6113816165, 6852128163306360106612], body := [MS.asg (MT.nam 6247773044) (MX.call (MX.glb 1739997520299507713011558) [MX.loc 6013346164, MX.loc 6113816165, MX.loc 6852128163306360106612]), MS.exp (MX.call (MX.glb 103711934106397804) [MX.loc 6013346164, MX.loc 6113816165, MX.sub (MX.loc 6852128163306360106612) (MX.cst (MV.int 2))]), MS.ife (MX.cmp (MX.call (MX.glb 23881070) [MX.sub (MX.loc 6852128163306360106612) (MX.cst (MV.int 3))]) (Co.eq) (MX.cst (MV.int 0))) [MS.asg (MT.sub (MX.att (MX.loc 6013346164) 6214874995) (MX.loc 6247773044)) (MX.tup [MX.loc 6113816165, MX.tup [MX.cst (MV.str 1414223777620), MX.sub (MX.loc 6852128163306360106612) (MX.cst (MV.int 1)), MX.call (MX.glb 23881070) [MX.att (MX.loc 6013346164) 6214874995]]]), MS.ret none] [], MS.asg (MT.nam 6231386480) (MX.call (MX.glb 1739997520299507713011558) [MX.loc 6013346164, MX.loc 6113816165, MX.loc 6852128163306360106612]), MS.asg (MT.sub (MX.att (MX.loc 6013346164) 6214874995) (MX.loc 6247773044)) (MX.tup [MX.loc 6113816165, MX.tup [MX.cst (MV.str 1414223777620), MX.sub (MX.loc 6852128163306360106612) (MX.cst (MV.int 1)), MX.call (MX.glb 23881070) [MX.att (MX.loc 6013346164) 6214874995]]]), MS.exp (MX.call (MX.glb 103711934106397804) [MX.loc 6013346164, MX.loc 6113816165, MX.sub (MX.loc 6852128163306360106612) (MX.cst (MV.int 3))]), MS.asg (MT.sub (MX.att (MX.loc 6013346164) 6214874995) (MX.loc 6231386480)) (MX.tup [MX.loc 6113816165, MX.tup [MX.cst (MV.str 5542071632), MX.call (MX.glb 23881070) [MX.att (MX.loc 6013346164) 6214874995]]])] }
noncomputable def zcG : MF := { params := [24278382, 90484, 6852128163306360106612], body := [MS.asg (MT.nam 6298759780) (MX.sub (MX.loc 6852128163306360106612) (MX.cst (MV.int 0))), MS.ife (MX.cmp (MX.loc 6298759780) (Co.eq) (MX.cst (MV.str 1414223777620))) [MS.ret (some (MX.ife (MX.call (MX.glb 101739320405292389) [MX.mth (MX.loc 24278382) 1612482507880 [MX.sub (MX.loc 6852128163306360106612) (MX.cst (MV.int 1))]]) (MX.bin (Op.add) (MX.loc 90484) (MX.cst (MV.int 1))) (MX.sub (MX.loc 6852128163306360106612) (MX.cst (MV.int 2)))))] [], MS.ife (MX.cmp (MX.loc 6298759780) (Co.eq) (MX.cst (MV.str 5542071632))) [MS.ret (some (MX.sub (MX.loc 6852128163306360106612) (MX.cst (MV.int 1))))] [], MS.ife (MX.cmp (MX.loc 6298759780) (Co.eq) (MX.cst (MV.str 371932697809486))) [MS.asg (MT.nam 1582366286693) (MX.call (MX.glb 114632105102705455381897896805) [MX.att (MX.loc 24278382) 100046136923025260]), MS.ret (some (MX.ife (MX.cmp (MX.sub (MX.loc 6852128163306360106612) (MX.cst (MV.int 1))) (Co.is) (MX.cst (MV.none))) (MX.loc 1582366286693) (MX.call (MX.glb 26547700982972641126) [MX.att (MX.loc 24278382) 6013346164, MX.sub (MX.loc 6852128163306360106612) (MX.cst (MV.int 1))])))] [], MS.asg (MT.nam 6113816165) (MX.sub (MX.loc 6852128163306360106612) (MX.cst (MV.int 1))), MS.ife (MX.cmp (MX.loc 6298759780) (Co.eq) (MX.cst (MV.str 5625497423))) [MS.asg (MT.nam 1612364473192) (MX.call (MX.glb 390775174292846) [MX.mth (MX.loc 24278382) 1612364868709 [MX.sub (MX.loc 6852128163306360106612) (MX.cst (MV.int 2))], MX.call (MX.glb 23881070) [MX.sub (MX.loc 6852128163306360106612) (MX.cst (MV.int 3))]]), MS.ife (MX.cmp (MX.loc 1612364473192) (Co.is) (MX.cst (MV.none))) [MS.ret (some (MX.bin (Op.add) (MX.loc 90484) (MX.cst (MV.int 1))))] [], MS.asg (MT.tup [MT.nam 6298759780, MT.nam 6113816165]) (MX.tup [MX.sub (MX.loc 6852128163306360106612) (MX.cst (MV.int 1)), MX.sub (MX.sub (MX.loc 6852128163306360106612) (MX.cst (MV.int 3))) (MX.loc 1612364473192)])] [], MS.asg (MT.nam 6030319980) (MX.call (MX.glb 26547700982972641126) [MX.att (MX.loc 24278382) 6013346164, MX.loc 6113816165]), MS.ife (MX.cmp (MX.loc 6298759780) (Co.eq) (MX.cst (MV.str 1405785167170))) [MS.exp (MX.call (MX.glb 1543763096930) [MX.att (MX.loc 24278382) 100046136923025260, MX.bin (Op.add) (MX.loc 90484) (MX.cst (MV.int 1))])] [], MS.ret (some (MX.loc 6030319980))] }
noncomputable def zfO : MF := { params := [402925602104690, 5946045555], body := [MS.ret (some (MX.cmp2 (MX.neg (MX.bin (Op.shl) (MX.cst (MV.int 1)) (MX.bin (Op.sub) (MX.loc 5946045555) (MX.cst (MV.int 1))))) (Co.le) (MX.loc 402925602104690) (Co.lt) (MX.bin (Op.shl) (MX.cst (MV.int 1)) (MX.bin (Op.sub) (MX.loc 5946045555) (MX.cst (MV.int 1))))))] }
noncomputable def zcp : MF := { params := [1607952266597, 5946045555], body := [MS.ife (MX.call (MX.glb 1706903273020983629210469) [MX.loc 1607952266597, MX.glb 24343666]) [MS.rai (MX.call (MX.glb 1522399657946512425643890) [MX.cst (MV.str 87117)])] [], MS.asg (MT.nam 402925602104690) (MX.ife (MX.call (MX.glb 1706903273020983629210469) [MX.loc 1607952266597, MX.glb 1599698136165]) (MX.call (MX.glb 1772813921363478991692146) [MX.loc 1607952266597]) (MX.loc 1607952266597)), MS.ife (MX.not (MX.call (MX.glb 6013154419) [MX.loc 402925602104690, MX.loc 5946045555])) [MS.rai (MX.call (MX.glb 1522399657946512425643890) [MX.cst (MV.str 85846)])] [], MS.ret (some (MX.loc 402925602104690))] }
noncomputable def zcH : MF := { params := [1607952266597], body := [MS.ife (MX.call (MX.glb 1706903273020983629210469) [MX.loc 1607952266597, MX.glb 24343666]) [MS.rai (MX.call (MX.glb 1522399657946512425643890) [MX.cst (MV.str 87117)])] [], MS.asg (MT.nam 6231259749) (MX.ife (MX.call (MX.glb 1706903273020983629210469) [MX.loc 1607952266597, MX.glb 1599698136165]) (MX.sub (MX.loc 1607952266597) (MX.cst (MV.int 0))) (MX.loc 1607952266597)), MS.ret (some (MX.bin (Op.sub) (MX.cmp (MX.loc 6231259749) (Co.gt) (MX.cst (MV.int 0))) (MX.cmp (MX.loc 6231259749) (Co.lt) (MX.cst (MV.int 0)))))] }
noncomputable def zcq : MF := { params := [1607952266597], body := [MS.ife (MX.call (MX.glb 1706903273020983629210469) [MX.loc 1607952266597, MX.glb 24343666]) [MS.rai (MX.call (MX.glb 1522399657946512425643890) [MX.cst (MV.str 87117)])] [], MS.ret (some (MX.not (MX.call (MX.glb 1706903273020983629210469) [MX.loc 1607952266597, MX.glb 1599698136165])))] }
noncomputable def zcI : MF := { params := [402925602104690, 5946045555, 391878846018675], body := [MS.ret (some (MX.ife (MX.call (MX.glb 6013154419) [MX.loc 402925602104690, MX.loc 5946045555]) (MX.loc 402925602104690) (MX.call (MX.glb 6130066533) [MX.loc 402925602104690, MX.cst (MV.int 0), MX.loc 391878846018675])))] }
noncomputable def zaL : MF := { params := [94064, 353, 354, 5946045555, 391878846018675], body := [MS.ife (MX.cmp (MX.loc 94064) (Co.eq) (MX.cst (MV.str 299))) [MS.ret (some (MX.call (MX.glb 104538767203525988) [MX.bin (Op.add) (MX.loc 353) (MX.loc 354), MX.loc 5946045555, MX.loc 391878846018675]))] [], MS.ret (some (MX.call (MX.glb 104538767203525988) [MX.ife (MX.cmp (MX.loc 94064) (Co.eq) (MX.cst (MV.str 301))) (MX.bin (Op.sub) (MX.loc 353) (MX.loc 354)) (MX.bin (Op.mul) (MX.loc 353) (MX.loc 354)), MX.loc 5946045555, MX.loc 391878846018675]))] }
noncomputable def zcr : MF := { params := [94064, 353, 354, 5946045555, 391878846018675], body := [MS.asg (MT.tup [MT.nam 26045265963474121588, MT.nam 6667588100925594496612]) (MX.tup [MX.call (MX.glb 26045266036471589989) [MX.loc 353], MX.call (MX.glb 26045266036471589989) [MX.loc 354]]), MS.ife (MX.cmp (MX.loc 94064) (Co.eq) (MX.cst (MV.str 350))) [MS.ret (some (MX.call (MX.glb 407237683275108) [MX.loc 353, MX.loc 354, MX.loc 5946045555, MX.loc 391878846018675]))] [], MS.ife (MX.bop false [MX.cmp (MX.loc 94064) (Co.eq) (MX.cst (MV.str 348)), MX.cmp (MX.loc 94064) (Co.eq) (MX.cst (MV.str 21843780))]) [MS.asg (MT.nam 6298759787) (MX.ife (MX.cmp (MX.loc 94064) (Co.eq) (MX.cst (MV.str 348))) (MX.glb 110009172362600674136326237812) (MX.glb 25613506409029530484)), MS.ret (some (MX.call (MX.glb 104538767203525988) [MX.call (MX.loc 6298759787) [MX.call (MX.glb 27050993673148788582) [MX.loc 353, MX.loc 5946045555], MX.call (MX.glb 27050993673148788582) [MX.loc 354, MX.loc 5946045555]], MX.loc 5946045555, MX.loc 391878846018675]))] [], MS.ife (MX.bop true [MX.cmp (MX.loc 94064) (Co.ne) (MX.cst (MV.str 303)), MX.loc 26045265963474121588, MX.loc 6667588100925594496612]) [MS.ret (some (MX.call (MX.glb 7614177814149658286333369749759332) [MX.loc 94064, MX.loc 353, MX.loc 354, MX.loc 5946045555, MX.loc 391878846018675]))] [], MS.asg (MT.tup [MT.nam 24079973, MT.nam 1578205996402]) (MX.tup [MX.call (MX.glb 1683032752429985867722598) [MX.loc 353, MX.loc 391878846018675], MX.call (MX.glb 1683032752429985867722598) [MX.loc 354, MX.loc 391878846018675]]), MS.ife (MX.cmp (MX.loc 94064) (Co.eq) (MX.cst (MV.str 299))) [MS.ret (some (MX.call (MX.glb 1530608575588) [MX.loc 24079973, MX.loc 1578205996402, MX.loc 391878846018675]))] [], MS.ife (MX.cmp (MX.loc 94064) (Co.eq) (MX.cst (MV.str 301))) [MS.ret (some (MX.call (MX.glb 1530609759586) [MX.loc 24079973, MX.loc 1578205996402, MX.loc 391878846018675]))] [], MS.ret (some (MX.ife (MX.cmp (MX.loc 94064) (Co.eq) (MX.cst (MV.str 298))) (MX.call (MX.glb 1530609366380) [MX.loc 24079973, MX.loc 1578205996402, MX.loc 391878846018675]) (MX.call (MX.glb 1530608773494) [MX.loc 24079973, MX.loc 1578205996402, MX.loc 391878846018675])))] }
noncomputable def zcs : MF := { params := [353, 354], body := [MS.ife (MX.cmp (MX.call (MX.glb 1706903273020983629210469) [MX.loc 353, MX.glb 24343666]) (Co.ne) (MX.call (MX.glb 1706903273020983629210469) [MX.loc 354, MX.glb 24343666])) [MS.rai (MX.call (MX.glb 1522399657946512425643890) [MX.cst (MV.str 87117)])] [], MS.ife (MX.bop false [MX.call (MX.glb 1706903273020983629210469) [MX.loc 353, MX.glb 24343666], MX.bop true [MX.call (MX.glb 26045266036471589989) [MX.loc 353], MX.call (MX.glb 26045266036471589989) [MX.loc 354]]]) [MS.ret (some (MX.bin (Op.sub) (MX.cmp (MX.loc 353) (Co.gt) (MX.loc 354)) (MX.cmp (MX.loc 353) (Co.lt) (MX.loc 354))))] [], MS.ret (some (MX.call (MX.glb 6573914350212725437029) [MX.ife (MX.call (MX.glb 1706903273020983629210469) [MX.loc 353, MX.glb 1599698136165]) (MX.loc 353) (MX.tup [MX.loc 353, MX.cst (MV.int 0)]), MX.ife (MX.call (MX.glb 1706903273020983629210469) [MX.loc 354, MX.glb 1599698136165]) (MX.loc 354) (MX.tup [MX.loc 354, MX.cst (MV.int 0)])]))] }
noncomputable def zao : MF := { params := [6230994022, 6130987892], body := [MS.asg (MT.att (MX.loc 6230994022) 6180924517) (MX.lst []), MS.asg (MT.att (MX.loc 6230994022) 6130987892) (MX.loc 6130987892), MS.asg (MT.att (MX.loc 6230994022) 6610953639064984576372) (MX.neg (MX.cst (MV.int 1)))] }
noncomputable def zct : MF := { params := [100046136923025260, 1535156449913], body := [MS.ife (MX.cmp (MX.call (MX.glb 23881070) [MX.att (MX.loc 100046136923025260) 6180924517]) (Co.ge) (MX.att (MX.loc 100046136923025260) 6130987892)) [MS.rai (MX.call (MX.glb 1522399657946512425643890) [MX.cst (MV.str 85837)])] [], MS.exp (MX.mth (MX.att (MX.loc 100046136923025260) 6180924517) 388610526637668 [MX.loc 1535156449913])] }
noncomputable def zcu : MF := { params := [6180924517], body := [MS.for_ (MT.nam 90484) (MX.call (MX.glb 1590772524901) [MX.call (MX.glb 23881070) [MX.loc 6180924517], MX.cst (MV.int 0), MX.neg (MX.cst (MV.int 1))]) [MS.ife (MX.cmp (MX.sub (MX.sub (MX.loc 6180924517) (MX.bin (Op.sub) (MX.loc 90484) (MX.cst (MV.int 1)))) (MX.cst (MV.int 0))) (Co.eq) (MX.cst (MV.str 1405785167170))) [MS.ret (some (MX.loc 90484))] []], MS.ret (some (MX.cst (MV.int 0)))] }
noncomputable def zcv : MF := { params := [6180924517, 6097038948, 6146846053], body := [MS.for_ (MT.nam 90484) (MX.call (MX.glb 1590772524901) [MX.bin (Op.sub) (MX.call (MX.glb 23881070) [MX.loc 6180924517]) (MX.cst (MV.int 1)), MX.bin (Op.sub) (MX.call (MX.glb 25827140487513861990) [MX.loc 6180924517]) (MX.cst (MV.int 1)), MX.neg (MX.cst (MV.int 1))]) [MS.ife (MX.bop true [MX.cmp (MX.sub (MX.sub (MX.loc 6180924517) (MX.loc 90484)) (MX.cst (MV.int 0))) (Co.eq) (MX.loc 6097038948), MX.cmp (MX.loc 6146846053) (Co.inn) (MX.tup [MX.cst (MV.str 1), MX.sub (MX.sub (MX.loc 6180924517) (MX.loc 90484)) (MX.cst (MV.int 1))])]) [MS.ret (some (MX.loc 90484))] []], MS.ret (some (MX.neg (MX.cst (MV.int 1))))] }
noncomputable def zcX : MF := { params := [100046136923025260, 6130069113], body := [MS.asg (MT.att (MX.loc 100046136923025260) 6180924517) (MX.slc (MX.att (MX.loc 100046136923025260) 6180924517) none (some (MX.loc 6130069113)))] }
noncomputable def zcJ : MF := { params := [1607952266597, 1565136873844, 6231975280, 1578172179826], body := [MS.ret (some (MX.ife (MX.cmp (MX.call (MX.glb 104543109313949542) [MX.loc 6231975280]) (Co.ge) (MX.cst (MV.int 0))) (MX.cmp (MX.call (MX.loc 1578172179826) [MX.loc 1565136873844, MX.loc 1607952266597]) (Co.lt) (MX.cst (MV.int 0))) (MX.cmp (MX.call (MX.loc 1578172179826) [MX.loc 1607952266597, MX.loc 1565136873844]) (Co.lt) (MX.cst (MV.int 0)))))] }
noncomputable def zb9 : MF := { params := [100046136923025260, 6146846053, 1582366286693, 1565136873844, 6231975280], body := [MS.asg (MT.nam 90484) (MX.call (MX.glb 25827991504983908724) [MX.att (MX.loc 100046136923025260) 6180924517, MX.cst (MV.str 21385042), MX.loc 6146846053]), MS.ife (MX.cmp (MX.loc 90484) (Co.ge) (MX.cst (MV.int 0))) [MS.exp (MX.call (MX.glb 390831091446895) [MX.loc 100046136923025260, MX.loc 90484])] [], MS.exp (MX.call (MX.glb 26550255131573645166) [MX.loc 100046136923025260, MX.tup [MX.cst (MV.str 21385042), MX.loc 6146846053, MX.loc 1582366286693, MX.loc 1565136873844, MX.loc 6231975280]])] }
noncomputable def zcw : MF := { params := [100046136923025260, 6146846053], body := [MS.asg (MT.nam 90484) (MX.call (MX.glb 25827991504983908724) [MX.att (MX.loc 100046136923025260) 6180924517, MX.cst (MV.str 21385042), MX.loc 6146846053]), MS.ife (MX.cmp (MX.loc 90484) (Co.lt) (MX.cst (MV.int 0))) [MS.rai (MX.call (MX.glb 1522399657946512425643890) [MX.cst (MV.str 85574)])] [], MS.ret (some (MX.sub (MX.sub (MX.att (MX.loc 100046136923025260) 6180924517) (MX.loc 90484)) (MX.cst (MV.int 1))))] }
noncomputable def zcx : MF := { params := [100046136923025260, 6146846053, 1607952266597, 23159908, 1578172179826], body := [MS.asg (MT.nam 90484) (MX.call (MX.glb 25827991504983908724) [MX.att (MX.loc 100046136923025260) 6180924517, MX.cst (MV.str 21385042), MX.loc 6146846053]), MS.ife (MX.cmp (MX.loc 90484) (Co.lt) (MX.cst (MV.int 0))) [MS.rai (MX.call (MX.glb 1522399657946512425643890) [MX.cst (MV.str 85574)])] [], MS.asg (MT.tup [MT.nam 6097038948, MT.nam 6298759780, MT.nam 1582366286693, MT.nam 1565136873844, MT.nam 6231975280]) (MX.sub (MX.att (MX.loc 100046136923025260) 6180924517) (MX.loc 90484)), MS.asg (MT.nam 1607952266597) (MX.call (MX.loc 23159908) [MX.loc 1607952266597, MX.loc 6231975280]), MS.ife (MX.call (MX.glb 101739320337068916) [MX.loc 1607952266597, MX.loc 1565136873844, MX.loc 6231975280, MX.loc 1578172179826]) [MS.exp (MX.call (MX.glb 390831091446895) [MX.loc 100046136923025260, MX.loc 90484]), MS.ret (some (MX.tup [MX.loc 1607952266597, MX.cst (MV.none)]))] [], MS.exp (MX.call (MX.glb 390831091446895) [MX.loc 100046136923025260, MX.bin (Op.add) (MX.loc 90484) (MX.cst (MV.int 1))]), MS.ret (some (MX.tup [MX.loc 1607952266597, MX.loc 1582366286693]))] }
noncomputable def zbn : MF := { params := [100046136923025260, 1582366286693], body := [MS.asg (MT.nam 6180924517) (MX.att (MX.loc 100046136923025260) 6180924517), MS.asg (MT.nam 1595319219315) (MX.cmpr (MX.loc 90484) (CT.one 90484) (MX.call (MX.glb 1590772524901) [MX.call (MX.glb 25827140487513861990) [MX.loc 6180924517], MX.call (MX.glb 23881070) [MX.loc 6180924517]]) [MX.cmp (MX.sub (MX.loc 6180924517) (MX.loc 90484)) (Co.eq) (MX.tup [MX.cst (MV.str 1474386545733), MX.loc 1582366286693])]), MS.ife (MX.cmp (MX.loc 1595319219315) (Co.ne) (MX.lst [])) [MS.exp (MX.call (MX.glb 390831091446895) [MX.loc 100046136923025260, MX.bin (Op.add) (MX.sub (MX.loc 1595319219315) (MX.cst (MV.int 0))) (MX.cst (MV.int 1))])] [MS.exp (MX.call (MX.glb 26550255131573645166) [MX.loc 100046136923025260, MX.tup [MX.cst (MV.str 1474386545733), MX.loc 1582366286693]])]] }
noncomputable def zca : MF := { params := [100046136923025260, 1582366286693], body := [MS.asg (MT.nam 6180924517) (MX.att (MX.loc 100046136923025260) 6180924517), MS.asg (MT.nam 1595319219315) (MX.cmpr (MX.loc 90484) (CT.one 90484) (MX.call (MX.glb 1590772524901) [MX.call (MX.glb 25827140487513861990) [MX.loc 6180924517], MX.call (MX.glb 23881070) [MX.loc 6180924517]]) [MX.cmp (MX.sub (MX.loc 6180924517) (MX.loc 90484)) (Co.eq) (MX.tup [MX.cst (MV.str 1474386545733), MX.loc 1582366286693])]), MS.ife (MX.cmp (MX.loc 1595319219315) (Co.ne) (MX.lst [])) [MS.exp (MX.call (MX.glb 390831091446895) [MX.loc 100046136923025260, MX.sub (MX.loc 1595319219315) (MX.cst (MV.int 0))])] []] }
noncomputable def zbK : MF := { params := [100046136923025260, 1582366286693], body := [MS.asg (MT.nam 90484) (MX.call (MX.glb 25827991504983908724) [MX.att (MX.loc 100046136923025260) 6180924517, MX.cst (MV.str 1474386545733), MX.loc 1582366286693]), MS.ife (MX.cmp (MX.loc 90484) (Co.lt) (MX.cst (MV.int 0))) [MS.rai (MX.call (MX.glb 1522399657946512425643890) [MX.cst (MV.str 87877)])] [], MS.exp (MX.call (MX.glb 390831091446895) [MX.loc 100046136923025260, MX.bin (Op.add) (MX.loc 90484) (MX.cst (MV.int 1))]), MS.ret (some (MX.sub (MX.sub (MX.att (MX.loc 100046136923025260) 6180924517) (MX.loc 90484)) (MX.cst (MV.int 1))))] }
noncomputable def zdG : MF := { params := [100046136923025260, 1582366286693], body := [MS.exp (MX.call (MX.glb 26550255131573645166) [MX.loc 100046136923025260, MX.tup [MX.cst (MV.str 1405785167170), MX.loc 1582366286693]])] }
noncomputable def za5 : MF := { params := [100046136923025260], body := [MS.asg (MT.nam 6130069113) (MX.call (MX.glb 25827140487513861990) [MX.att (MX.loc 100046136923025260) 6180924517]), MS.ife (MX.cmp (MX.loc 6130069113) (Co.eq) (MX.cst (MV.int 0))) [MS.rai (MX.call (MX.glb 1522399657946512425643890) [MX.cst (MV.str 86599)])] [], MS.asg (MT.nam 1582366286693) (MX.sub (MX.sub (MX.att (MX.loc 100046136923025260) 6180924517) (MX.bin (Op.sub) (MX.loc 6130069113) (MX.cst (MV.int 1)))) (MX.cst (MV.int 1))), MS.exp (MX.call (MX.glb 390831091446895) [MX.loc 100046136923025260, MX.bin (Op.sub) (MX.loc 6130069113) (MX.cst (MV.int 1))]), MS.ret (some (MX.loc 1582366286693))] }
noncomputable def zcY : MF := { params := [402925602104690, 6130069113], body := [MS.ife (MX.not (MX.cmp2 (MX.cst (MV.int 0)) (Co.le) (MX.loc 402925602104690) (Co.le) (MX.glb 402946902043240485290657106))) [MS.rai (MX.call (MX.glb 1522399657946512425643890) [MX.cst (MV.str 83523)])] [], MS.ret (some (MX.ife (MX.cmp2 (MX.cst (MV.int 1)) (Co.le) (MX.loc 402925602104690) (Co.le) (MX.loc 6130069113)) (MX.bin (Op.sub) (MX.loc 402925602104690) (MX.cst (MV.int 1))) (MX.cst (MV.none))))] }
noncomputable def zaQ : MF := { params := [6230994022], body := [MS.asg (MT.att (MX.loc 6230994022) 6214874995) (MX.lst []), MS.asg (MT.att (MX.loc 6230994022) 405085769393523) (MX.dct), MS.asg (MT.att (MX.loc 6230994022) 5979075681) (MX.lst []), MS.asg (MT.att (MX.loc 6230994022) 1582182265459) (MX.dct), MS.asg (MT.att (MX.loc 6230994022) 1565237670003) (MX.dct), MS.asg (MT.att (MX.loc 6230994022) 23490163) (MX.dct)] }
noncomputable def zbL : MF := { params := [6013346164, 6113816165, 6852128163306360106612], body := [MS.exp (MX.mth (MX.att (MX.loc 6013346164) 6214874995) 388610526637668 [MX.tup [MX.loc 6113816165, MX.loc 6852128163306360106612]]), MS.ret (some (MX.bin (Op.sub) (MX.call (MX.glb 23881070) [MX.att (MX.loc 6013346164) 6214874995]) (MX.cst (MV.int 1))))] }
noncomputable def zcK : MF := { params := [6013346164, 6113816165, 1754144809806428187292787], body := [MS.for_ (MT.nam 6852128163306360106612) (MX.loc 1754144809806428187292787) [MS.ife (MX.cmp (MX.sub (MX.loc 6852128163306360106612) (MX.cst (MV.int 0))) (Co.eq) (MX.cst (MV.str 84294))) [MS.exp (MX.call (MX.glb 405124742605158) [MX.loc 6013346164, MX.loc 6113816165, MX.loc 6852128163306360106612])] [MS.exp (MX.call (MX.glb 1739997520299507713011558) [MX.loc 6013346164, MX.loc 6113816165, MX.loc 6852128163306360106612])]]] }
noncomputable def zcZ : MF := { params := [6013346164], body := [MS.asg (MT.tup [MT.nam 412765305726323, MT.nam 6013547123, MT.nam 1547889108083]) (MX.tup [MX.lst [], MX.lst [], MX.lst []]), MS.for_ (MT.tup [MT.nam 90484, MT.nam 6180399474]) (MX.call (MX.glb 6593447022513235260517) [MX.att (MX.loc 6013346164) 6214874995]) [MS.asg (MT.tup [MT.nam 6113816165, MT.nam 6852128163306360106612]) (MX.loc 6180399474), MS.asg (MT.nam 6298759780) (MX.sub (MX.loc 6852128163306360106612) (MX.cst (MV.int 0))), MS.ife (MX.cmp (MX.loc 6298759780) (Co.eq) (MX.cst (MV.str 5440099393))) [MS.for_ (MT.nam 6247774324) (MX.sub (MX.loc 6852128163306360106612) (MX.cst (MV.int 1))) [MS.exp (MX.mth (MX.att (MX.loc 6013346164) 5979075681) 388610526637668 [MX.tup [MX.loc 6113816165, MX.loc 6247774324]])]] [MS.ife (MX.cmp (MX.loc 6298759780) (Co.eq) (MX.cst (MV.str 1474386545733))) [MS.exp (MX.mth (MX.loc 412765305726323) 388610526637668 [MX.loc 90484])] [MS.ife (MX.cmp (MX.loc 6298759780) (Co.eq) (MX.cst (MV.str 5759127108))) [MS.exp (MX.call (MX.glb 6685749423849843160947) [MX.loc 6013346164, MX.loc 412765305726323, MX.loc 90484])] [MS.ife (MX.cmp (MX.loc 6298759780) (Co.eq) (MX.cst (MV.str 23366159535143011667))) [MS.exp (MX.mth (MX.loc 1547889108083) 388610526637668 [MX.loc 90484]), MS.ife (MX.cmp (MX.sub (MX.loc 6852128163306360106612) (MX.cst (MV.int 1))) (Co.nin) (MX.att (MX.loc 6013346164) 23490163)) [MS.asg (MT.sub (MX.att (MX.loc 6013346164) 23490163) (MX.sub (MX.loc 6852128163306360106612) (MX.cst (MV.int 1)))) (MX.loc 90484)] []] [MS.ife (MX.cmp (MX.loc 6298759780) (Co.eq) (MX.cst (MV.str 1401472503364))) [MS.exp (MX.call (MX.glb 6685749423849843160947) [MX.loc 6013346164, MX.loc 1547889108083, MX.loc 90484])] [MS.ife (MX.cmp (MX.loc 6298759780) (Co.eq) (MX.cst (MV.str 21385042))) [MS.exp (MX.mth (MX.loc 6013547123) 388610526637668 [MX.loc 90484])] [MS.ife (MX.cmp (MX.loc 6298759780) (Co.eq) (MX.cst (MV.str 5608134740))) [MS.exp (MX.call (MX.glb 6593442222075483746419) [MX.loc 6013346164, MX.loc 6013547123, MX.loc 90484, MX.call (MX.glb 23945592) [MX.cst (MV.int 1), MX.call (MX.glb 23881070) [MX.sub (MX.loc 6852128163306360106612) (MX.cst (MV.int 1))]]])] []]]]]]]]] }
noncomputable def zcb : MF := { params := [6013346164, 6778054075912522004339, 90484], body := [MS.ife (MX.cmp (MX.call (MX.glb 23881070) [MX.loc 6778054075912522004339]) (Co.gt) (MX.cst (MV.int 0))) [MS.asg (MT.nam 1522119698798) (MX.mth (MX.loc 6778054075912522004339) 24145776 []), MS.asg (MT.sub (MX.att (MX.loc 6013346164) 1582182265459) (MX.loc 1522119698798)) (MX.loc 90484), MS.asg (MT.sub (MX.att (MX.loc 6013346164) 1582182265459) (MX.loc 90484)) (MX.loc 1522119698798)] []] }
noncomputable def zcc : MF := { params := [6013346164, 6013547123, 90484, 6130069113], body := [MS.for_ (MT.nam 1612364473192) (MX.call (MX.glb 1590772524901) [MX.loc 6130069113]) [MS.ife (MX.cmp (MX.call (MX.glb 23881070) [MX.loc 6013547123]) (Co.gt) (MX.cst (MV.int 0))) [MS.asg (MT.sub (MX.att (MX.loc 6013346164) 1565237670003) (MX.mth (MX.loc 6013547123) 24145776 [])) (MX.tup [MX.loc 90484, MX.loc 1612364473192])] []]] }
noncomputable def zcL : MF := { params := [405038811014500], body := [MS.asg (MT.nam 6013346164) (MX.call (MX.glb 5476475252) []), MS.for_ (MT.tup [MT.nam 6113816165, MT.nam 1754144809806428187292787]) (MX.loc 405038811014500) [MS.asg (MT.sub (MX.att (MX.loc 6013346164) 405085769393523) (MX.loc 6113816165)) (MX.call (MX.glb 23881070) [MX.att (MX.loc 6013346164) 6214874995]), MS.exp (MX.call (MX.glb 103711934106397804) [MX.loc 6013346164, MX.loc 6113816165, MX.loc 1754144809806428187292787]), MS.ife (MX.cmp (MX.sub (MX.att (MX.loc 6013346164) 405085769393523) (MX.loc 6113816165)) (Co.eq) (MX.call (MX.glb 23881070) [MX.att (MX.loc 6013346164) 6214874995])) [MS.exp (MX.call (MX.glb 1739997520299507713011558) [MX.loc 6013346164, MX.loc 6113816165, MX.tup [MX.cst (MV.str 22168909), MX.cst (MV.str 1)]])] []], MS.exp (MX.call (MX.glb 395143239198066) [MX.loc 6013346164]), MS.ret (some (MX.loc 6013346164))] }
noncomputable def zcy : MF := { params := [6013346164, 6113816165], body := [MS.ife (MX.cmp (MX.loc 6113816165) (Co.nin) (MX.att (MX.loc 6013346164) 405085769393523)) [MS.rai (MX.call (MX.glb 1522399657946512425643890) [MX.cst (MV.str 87372), MX.loc 6113816165])] [], MS.ret (some (MX.sub (MX.att (MX.loc 6013346164) 405085769393523) (MX.loc 6113816165)))] }
noncomputable def za6 : MF := { params := [6013346164, 24276855], body := [MS.ife (MX.cmp (MX.loc 24276855) (Co.nin) (MX.att (MX.loc 6013346164) 1582182265459)) [MS.rai (MX.call (MX.glb 1522399657946512425643890) [MX.cst (MV.str 87877), MX.call (MX.glb 102572814390751078) [MX.loc 6013346164, MX.loc 24276855]])] [], MS.ret (some (MX.sub (MX.att (MX.loc 6013346164) 1582182265459) (MX.loc 24276855)))] }
noncomputable def zcM : MF := { params := [24278382, 90484, 6852128163306360106612], body := [MS.ret (some (MX.ife (MX.cmp (MX.sub (MX.loc 6852128163306360106612) (MX.cst (MV.int 0))) (Co.inn) (MX.glb 1418770337875)) (MX.call (MX.glb 100327547307650416) [MX.loc 24278382, MX.loc 90484, MX.loc 6852128163306360106612]) (MX.call (MX.glb 100327547340812144) [MX.loc 24278382, MX.loc 90484, MX.loc 6852128163306360106612])))] }
noncomputable def zcN : MF := { params := [24278382, 90484, 6852128163306360106612], body := [MS.asg (MT.nam 6298759780) (MX.sub (MX.loc 6852128163306360106612) (MX.cst (MV.int 0))), MS.ife (MX.cmp (MX.loc 6298759780) (Co.eq) (MX.cst (MV.str 21385042))) [MS.ret (some (MX.call (MX.glb 391904481406834) [MX.loc 24278382, MX.loc 90484, MX.loc 6852128163306360106612]))] [], MS.ife (MX.cmp (MX.loc 6298759780) (Co.eq) (MX.cst (MV.str 5608134740))) [MS.ret (some (MX.call (MX.glb 6758820052925821382509) [MX.loc 24278382, MX.loc 90484, MX.ife (MX.cmp (MX.call (MX.glb 23881070) [MX.sub (MX.loc 6852128163306360106612) (MX.cst (MV.int 1))]) (Co.gt) (MX.cst (MV.int 0))) (MX.sub (MX.loc 6852128163306360106612) (MX.cst (MV.int 1))) (MX.lst [MX.cst (MV.str 1)])]))] [], MS.ife (MX.cmp (MX.loc 6298759780) (Co.eq) (MX.cst (MV.str 5759127108))) [MS.ret (some (MX.call (MX.glb 1772758506815339922285413) [MX.att (MX.loc 24278382) 100046136923025260, MX.call (MX.glb 110619604343493981063185263717) [MX.att (MX.loc 24278382) 6013346164, MX.loc 90484]]))] [], MS.ife (MX.call (MX.glb 101739320405292389) [MX.mth (MX.loc 24278382) 1612482507880 [MX.sub (MX.loc 6852128163306360106612) (MX.cst (MV.int 1))]]) [MS.exp (MX.call (MX.glb 453840253188586128076663150) [MX.att (MX.loc 24278382) 100046136923025260, MX.loc 90484]), MS.ret (some (MX.bin (Op.add) (MX.loc 90484) (MX.cst (MV.int 1))))] [], MS.exp (MX.call (MX.glb 6925052691476228959844) [MX.att (MX.loc 24278382) 100046136923025260, MX.loc 90484]), MS.ret (some (MX.bin (Op.add) (MX.call (MX.glb 110619604343493981063185263717) [MX.att (MX.loc 24278382) 6013346164, MX.loc 90484]) (MX.cst (MV.int 1))))] }
noncomputable def zc0 : MF := { params := [24278382, 90484, 6852128163306360106612], body := [MS.asg (MT.tup [MT.nam 6298759780, MT.nam 6146846053, MT.nam 1539367400308, MT.nam 6113293172, MT.nam 408418949620837]) (MX.loc 6852128163306360106612), MS.asg (MT.tup [MT.nam 1522119698798, MT.nam 1565136873844]) (MX.tup [MX.mth (MX.loc 24278382) 1612482507880 [MX.loc 1539367400308], MX.mth (MX.loc 24278382) 1612482507880 [MX.loc 6113293172]]), MS.asg (MT.nam 6231975280) (MX.ife (MX.cmp (MX.loc 408418949620837) (Co.is) (MX.cst (MV.none))) (MX.cst (MV.int 1)) (MX.mth (MX.loc 24278382) 1612482507880 [MX.loc 408418949620837])), MS.for_ (MT.nam 1607952266597) (MX.tup [MX.loc 1522119698798, MX.loc 1565136873844, MX.loc 6231975280]) [MS.ife (MX.call (MX.glb 1706903273020983629210469) [MX.loc 1607952266597, MX.glb 24343666]) [MS.rai (MX.call (MX.glb 1522399657946512425643890) [MX.cst (MV.str 87117)])] []], MS.exp (MX.mth (MX.loc 24278382) 1595386327653 [MX.loc 6146846053, MX.loc 1522119698798]), MS.ife (MX.not (MX.call (MX.glb 101739320337068916) [MX.mth (MX.loc 24278382) 29661483944662927586511842012517 [MX.loc 6146846053], MX.loc 1565136873844, MX.loc 6231975280, MX.glb 26477335546137898854])) [MS.exp (MX.call (MX.glb 6611964964349787203950) [MX.att (MX.loc 24278382) 100046136923025260, MX.loc 6146846053, MX.bin (Op.add) (MX.loc 90484) (MX.cst (MV.int 1)), MX.loc 1565136873844, MX.loc 6231975280]), MS.ret (some (MX.bin (Op.add) (MX.loc 90484) (MX.cst (MV.int 1))))] [], MS.asg (MT.tup [MT.nam 24276855, MT.nam 1612364473192]) (MX.call (MX.glb 442946030988556473920286578) [MX.att (MX.loc 24278382) 6013346164, MX.loc 90484]), MS.asg (MT.nam 1573592589683) (MX.sub (MX.sub (MX.sub (MX.att (MX.att (MX.loc 24278382) 6013346164) 6214874995) (MX.loc 24276855)) (MX.cst (MV.int 1))) (MX.cst (MV.int 1))), MS.ret (some (MX.call (MX.glb 6758820052925821382509) [MX.loc 24278382, MX.loc 24276855, MX.slc (MX.loc 1573592589683) (some (MX.bin (Op.add) (MX.loc 1612364473192) (MX.cst (MV.int 1)))) none]))] }
noncomputable def zcd : MF := { params := [24278382, 90484, 1573592589683], body := [MS.for_ (MT.nam 6248426596) (MX.loc 1573592589683) [MS.asg (MT.nam 6146846053) (MX.call (MX.glb 25827988142192422245) [MX.att (MX.loc 24278382) 100046136923025260, MX.loc 6248426596]), MS.asg (MT.tup [MT.nam 1607952266597, MT.nam 1582366286693]) (MX.call (MX.glb 25827988142192687220) [MX.att (MX.loc 24278382) 100046136923025260, MX.loc 6146846053, MX.mth (MX.loc 24278382) 29661483944662927586511842012517 [MX.loc 6146846053], MX.att (MX.loc 24278382) 6181123443, MX.glb 26477335546137898854]), MS.exp (MX.mth (MX.loc 24278382) 1595386327653 [MX.loc 6146846053, MX.loc 1607952266597]), MS.ife (MX.cmp (MX.loc 1582366286693) (Co.isn) (MX.cst (MV.none))) [MS.ret (some (MX.loc 1582366286693))] []], MS.ret (some (MX.bin (Op.add) (MX.loc 90484) (MX.cst (MV.int 1))))] }
noncomputable def zap : MF := { params := [6230994022, 6013346164, 411635780248947, 27052967330930716518, 5946045555, 391878846018675], body := [MS.asg (MT.att (MX.loc 6230994022) 6013346164) (MX.loc 6013346164), MS.asg (MT.att (MX.loc 6230994022) 411635780248947) (MX.loc 411635780248947), MS.asg (MT.att (MX.loc 6230994022) 27052967330930716518) (MX.loc 27052967330930716518), MS.asg (MT.att (MX.loc 6230994022) 5946045555) (MX.loc 5946045555), MS.asg (MT.att (MX.loc 6230994022) 391878846018675) (MX.loc 391878846018675), MS.asg (MT.att (MX.loc 6230994022) 100046136923025260) (MX.call (MX.glb 91038937668284268) [MX.cst (MV.int 20)]), MS.asg (MT.att (MX.loc 6230994022) 1573827929459) (MX.lst [])] }
noncomputable def zaR : MF := { params := [6230994022, 6248621413], body := [MS.asg (MT.nam 434502401747038096038458472) (MX.att (MX.loc 6230994022) 27052967330930716518), MS.ret (some (MX.call (MX.loc 434502401747038096038458472) [MX.loc 6248621413, MX.att (MX.loc 6230994022) 411635780248947]))] }
noncomputable def zaS : MF := { params := [6230994022, 6248621413], body := [MS.ret (some (MX.call (MX.glb 27050993673148788582) [MX.mth (MX.loc 6230994022) 1612482507880 [MX.loc 6248621413], MX.att (MX.loc 6230994022) 5946045555]))] }
noncomputable def zad : MF := { params := [6230994022, 6146846053], body := [MS.ret (some (MX.mth (MX.att (MX.loc 6230994022) 411635780248947) 23553396 [MX.loc 6146846053, MX.cst (MV.int 0)]))] }
noncomputable def zaT : MF := { params := [6230994022, 6146846053, 1607952266597], body := [MS.asg (MT.sub (MX.att (MX.loc 6230994022) 411635780248947) (MX.loc 6146846053)) (MX.loc 1607952266597)] }
noncomputable def za7 : MF := { params := [6230994022, 1607952266597, 6231975280], body := [MS.ret (some (MX.call (MX.glb 26689848079763268964) [MX.cst (MV.str 299), MX.loc 1607952266597, MX.loc 6231975280, MX.att (MX.loc 6230994022) 5946045555, MX.att (MX.loc 6230994022) 391878846018675]))] }
noncomputable def F_FlowRun_go : MF := { params := [6230994022, 90484, 6130987892], body := [MS.for_ (MT.nam 6248821358) (MX.call (MX.glb 1590772524901) [MX.loc 6130987892]) [MS.ife (MX.cmp (MX.loc 90484) (Co.ge) (MX.call (MX.glb 23881070) [MX.att (MX.att (MX.loc 6230994022) 6013346164) 6214874995])) [MS.ret (some (MX.loc 90484))] [], MS.asg (MT.nam 6852128163306360106612) (MX.sub (MX.sub (MX.att (MX.att (MX.loc 6230994022) 6013346164) 6214874995) (MX.loc 90484)) (MX.cst (MV.int 1))), MS.ife (MX.cmp (MX.sub (MX.loc 6852128163306360106612) (MX.cst (MV.int 0))) (Co.eq) (MX.cst (MV.str 21775700))) [MS.exp (MX.mth (MX.loc 6230994022) 1595386327653 [MX.sub (MX.sub (MX.loc 6852128163306360106612) (MX.cst (MV.int 1))) (MX.cst (MV.int 1)), MX.mth (MX.loc 6230994022) 1612482507880 [MX.sub (MX.loc 6852128163306360106612) (MX.cst (MV.int 2))]]), MS.aug 90484 (Op.add) (MX.cst (MV.int 1))] [MS.ife (MX.cmp (MX.sub (MX.loc 6852128163306360106612) (MX.cst (MV.int 0))) (Co.eq) (MX.cst (MV.str 22168909))) [MS.exp (MX.mth (MX.att (MX.loc 6230994022) 1573827929459) 388610526637668 [MX.tup [MX.sub (MX.loc 6852128163306360106612) (MX.cst (MV.int 1)), MX.mth (MX.loc 6230994022) 29661483944662927586511842012517 [MX.cst (MV.str 344)]]]), MS.aug 90484 (Op.add) (MX.cst (MV.int 1))] [MS.ife (MX.cmp (MX.sub (MX.loc 6852128163306360106612) (MX.cst (MV.int 0))) (Co.eq) (MX.cst (MV.str 21319236))) [MS.ret (some (MX.call (MX.glb 23881070) [MX.att (MX.att (MX.loc 6230994022) 6013346164) 6214874995]))] [MS.asg (MT.nam 90484) (MX.call (MX.glb 100327547239952247) [MX.loc 6230994022, MX.loc 90484, MX.loc 6852128163306360106612])]]]], MS.ret (some (MX.ife (MX.cmp (MX.loc 90484) (Co.ge) (MX.call (MX.glb 23881070) [MX.att (MX.att (MX.loc 6230994022) 6013346164) 6214874995])) (MX.loc 90484) (MX.neg (MX.cst (MV.int 1)))))] }
noncomputable def cfns : List (Nat × MF) := [(6667588095471287494772, zb8), (101739320405292389, zcF), (405124742605158, zcW), (100327547307650416, zcG), (6013154419, zfO), (27050993673148788582, zcp), (104543109313949542, zcH), (26045266036471589989, zcq), (104538767203525988, zcI), (7614177814149658286333369749759332, zaL), (26689848079763268964, zcr), (26477335546137898854, zcs), (194457990623467002731720290528779134031162615835562905597489545565136868464516194431661892529245385991427091357535, zao), (26550255131573645166, zct), (25827140487513861990, zcu), (25827991504983908724, zcv), (390831091446895, zcX), (101739320337068916, zcJ), (6611964964349787203950, zb9), (25827988142192422245, zcw), (25827988142192687220, zcx), (453840253188586128076663150, zbn), (6925052691476228959844, zca), (1772758506815339922285413, zbK), (1543763096930, zdG), (114632105102705455381897896805, za5), (390775174292846, zcY), (11697680140813699095553617261840367871545979128954689612172222715852675943943904352908445219913983994388319, zaQ), (1739997520299507713011558, zbL), (103711934106397804, zcK), (395143239198066, zcZ), (6685749423849843160947, zcb), (6593442222075483746419, zcc), (100887207483827566, zcL), (26547700982972641126, zcy), (110619604343493981063185263717, za6), (100327547239952247, zcM), (100327547340812144, zcN), (391904481406834, zc0), (6758820052925821382509, zcd), (196254634976314992399582029673955626514985301736485678804054381246074043110747630893076508655770246495932903612255, zap), (196254634976314992399582029673955626514985301736485678804054381246074043110747630893076508655744927425992349348968, zaR), (196254634976314992399582029673955626514985301736485678804054381246074043110747630893076508655744927425992231709797, zaS), (196254634976314992399582029673955626514985301736485678804054381246074043110747630922737992600407855010891708853605, zad), (196254634976314992399582029673955626514985301736485678804054381246074043110747630893076508655744927425975253168741, zaT), (196254634976314992399582029673955626514985301736485678804054381246074043110747630893076508655744927424386047964531, za7), (196254634976314992399582029673955626514985301736485678804054381246074043110747630893076508655744927424379866933103, F_FlowRun_go)]
noncomputable def cglb : List (Nat × MV) := [(6667588095471287494772, .fn 6667588095471287494772), (101739320405292389, .fn 101739320405292389), (405124742605158, .fn 405124742605158), (100327547307650416, .fn 100327547307650416), (6013154419, .fn 6013154419), (27050993673148788582, .fn 27050993673148788582), (104543109313949542, .fn 104543109313949542), (26045266036471589989, .fn 26045266036471589989), (104538767203525988, .fn 104538767203525988), (7614177814149658286333369749759332, .fn 7614177814149658286333369749759332), (26689848079763268964, .fn 26689848079763268964), (26477335546137898854, .fn 26477335546137898854), (26550255131573645166, .fn 26550255131573645166), (25827140487513861990, .fn 25827140487513861990), (25827991504983908724, .fn 25827991504983908724), (390831091446895, .fn 390831091446895), (101739320337068916, .fn 101739320337068916), (6611964964349787203950, .fn 6611964964349787203950), (25827988142192422245, .fn 25827988142192422245), (25827988142192687220, .fn 25827988142192687220), (453840253188586128076663150, .fn 453840253188586128076663150), (6925052691476228959844, .fn 6925052691476228959844), (1772758506815339922285413, .fn 1772758506815339922285413), (1543763096930, .fn 1543763096930), (114632105102705455381897896805, .fn 114632105102705455381897896805), (390775174292846, .fn 390775174292846), (1739997520299507713011558, .fn 1739997520299507713011558), (103711934106397804, .fn 103711934106397804), (395143239198066, .fn 395143239198066), (6685749423849843160947, .fn 6685749423849843160947), (6593442222075483746419, .fn 6593442222075483746419), (100887207483827566, .fn 100887207483827566), (26547700982972641126, .fn 26547700982972641126), (110619604343493981063185263717, .fn 110619604343493981063185263717), (100327547239952247, .fn 100327547239952247), (100327547340812144, .fn 100327547340812144), (391904481406834, .fn 391904481406834), (6758820052925821382509, .fn 6758820052925821382509), (91038937668284268, .cls 91038937668284268), (5476475252, .cls 5476475252), (91880068406736238, .cls 91880068406736238), (23881070, .bi .len), (23159411, .bi .abs), (1590772524901, .bi .range), (1706903273020983629210469, .bi .isinst), (6593447022513235260517, .bi .enum), (5979595636, .bi .dict), (23945592, .bi .max), (24343666, .bi .tstr), (1599698136165, .bi .ttup), (1418770337875, .tup [.str 1414223777620, .str 5542071632, .str 5491348559, .str 1405785167170, .str 5625497423, .str 371932697809486]), (402946902043240485290657106, .int 255)]
noncomputable def ccls : List (Nat × List Nat × List (Nat × Nat)) := [(91038937668284268, [6180924517, 6130987892, 6610953639064984576372], [(25319071553036771167, 194457990623467002731720290528779134031162615835562905597489545565136868464516194431661892529245385991427091357535)]), (5476475252, [6214874995, 405085769393523, 5979075681, 1582182265459, 1565237670003, 23490163], [(25319071553036771167, 11697680140813699095553617261840367871545979128954689612172222715852675943943904352908445219913983994388319)]), (91880068406736238, [6013346164, 411635780248947, 27052967330930716518, 5946045555, 391878846018675, 100046136923025260, 1573827929459], [(25319071553036771167, 196254634976314992399582029673955626514985301736485678804054381246074043110747630893076508655770246495932903612255), (1612482507880, 196254634976314992399582029673955626514985301736485678804054381246074043110747630893076508655744927425992349348968), (1612364868709, 196254634976314992399582029673955626514985301736485678804054381246074043110747630893076508655744927425992231709797), (29661483944662927586511842012517, 196254634976314992399582029673955626514985301736485678804054381246074043110747630922737992600407855010891708853605), (1595386327653, 196254634976314992399582029673955626514985301736485678804054381246074043110747630893076508655744927425975253168741), (6181123443, 196254634976314992399582029673955626514985301736485678804054381246074043110747630893076508655744927424386047964531), (92015, 196254634976314992399582029673955626514985301736485678804054381246074043110747630893076508655744927424379866933103)])]
noncomputable def PgC (l : List (Nat × MF)) (g : List (Nat × MV)) : Pg := pg (cfns ++ l) (cglb ++ g) ccls
section
variable {l : List (Nat × MF)} {g : List (Nat × MV)}
theorem za8 : (PgC l g).fns 6667588095471287494772 = some zb8 := id rfl
theorem zbM : (PgC l g).fns 101739320405292389 = some zcF := id rfl
theorem zce : (PgC l g).fns 405124742605158 = some zcW := id rfl
theorem zbN : (PgC l g).fns 100327547307650416 = some zcG := id rfl
theorem zcP : (PgC l g).fns 6013154419 = some zfO := id rfl
theorem zbo : (PgC l g).fns 27050993673148788582 = some zcp := id rfl
theorem zbO : (PgC l g).fns 104543109313949542 = some zcH := id rfl
theorem zbp : (PgC l g).fns 26045266036471589989 = some zcq := id rfl
theorem zbP : (PgC l g).fns 104538767203525988 = some zcI := id rfl
theorem zal : (PgC l g).fns 7614177814149658286333369749759332 = some zaL := id rfl
theorem zbq : (PgC l g).fns 26689848079763268964 = some zcr := id rfl
theorem zbr : (PgC l g).fns 26477335546137898854 = some zcs := id rfl
theorem zae : (PgC l g).fns 194457990623467002731720290528779134031162615835562905597489545565136868464516194431661892529245385991427091357535 = some zao := id rfl
theorem zbs : (PgC l g).fns 26550255131573645166 = some zct := id rfl
theorem zbt : (PgC l g).fns 25827140487513861990 = some zcu := id rfl
theorem zbu : (PgC l g).fns 25827991504983908724 = some zcv := id rfl
theorem zcf : (PgC l g).fns 390831091446895 = some zcX := id rfl
theorem zbQ : (PgC l g).fns 101739320337068916 = some zcJ := id rfl
theorem za9 : (PgC l g).fns 6611964964349787203950 = some zb9 := id rfl
theorem zbv : (PgC l g).fns 25827988142192422245 = some zcw := id rfl
theorem zbw : (PgC l g).fns 25827988142192687220 = some zcx := id rfl
theorem zaM : (PgC l g).fns 453840253188586128076663150 = some zbn := id rfl
theorem zba : (PgC l g).fns 6925052691476228959844 = some zca := id rfl
theorem zaU : (PgC l g).fns 1772758506815339922285413 = some zbK := id rfl
theorem zcz : (PgC l g).fns 1543763096930 = some zdG := id rfl
theorem zaz : (PgC l g).fns 114632105102705455381897896805 = some za5 := id rfl
theorem zcg : (PgC l g).fns 390775174292846 = some zcY := id rfl
theorem zaq : (PgC l g).fns 11697680140813699095553617261840367871545979128954689612172222715852675943943904352908445219913983994388319 = some zaQ := id rfl
theorem zaV : (PgC l g).fns 1739997520299507713011558 = some zbL := id rfl
theorem zbR : (PgC l g).fns 103711934106397804 = some zcK := id rfl
theorem zch : (PgC l g).fns 395143239198066 = some zcZ := id rfl
theorem zbb : (PgC l g).fns 6685749423849843160947 = some zcb := id rfl
theorem zbc : (PgC l g).fns 6593442222075483746419 = some zcc := id rfl
theorem zbS : (PgC l g).fns 100887207483827566 = some zcL := id rfl
theorem zbx : (PgC l g).fns 26547700982972641126 = some zcy := id rfl
theorem zaA : (PgC l g).fns 110619604343493981063185263717 = some za6 := id rfl
theorem zbT : (PgC l g).fns 100327547239952247 = some zcM := id rfl
theorem zbU : (PgC l g).fns 100327547340812144 = some zcN := id rfl
theorem zci : (PgC l g).fns 391904481406834 = some zc0 := id rfl
theorem zbd : (PgC l g).fns 6758820052925821382509 = some zcd := id rfl
theorem zaf : (PgC l g).fns 196254634976314992399582029673955626514985301736485678804054381246074043110747630893076508655770246495932903612255 = some zap := id rfl
theorem zar : (PgC l g).fns 196254634976314992399582029673955626514985301736485678804054381246074043110747630893076508655744927425992349348968 = some zaR := id rfl
theorem zas : (PgC l g).fns 196254634976314992399582029673955626514985301736485678804054381246074043110747630893076508655744927425992231709797 = some zaS := id rfl
theorem zaa : (PgC l g).fns 196254634976314992399582029673955626514985301736485678804054381246074043110747630922737992600407855010891708853605 = some zad := id rfl
theorem zat : (PgC l g).fns 196254634976314992399582029673955626514985301736485678804054381246074043110747630893076508655744927425975253168741 = some zaT := id rfl
theorem zaB : (PgC l g).fns 196254634976314992399582029673955626514985301736485678804054381246074043110747630893076508655744927424386047964531 = some za7 := id rfl
theorem zaW : (PgC l g).fns 196254634976314992399582029673955626514985301736485678804054381246074043110747630893076508655744927424379866933103 = some F_FlowRun_go := id rfl
theorem zbe : (PgC l g).glb 6667588095471287494772 = some (.fn 6667588095471287494772) := id rfl
theorem zbV : (PgC l g).glb 101739320405292389 = some (.fn 101739320405292389) := id rfl
theorem zcj : (PgC l g).glb 405124742605158 = some (.fn 405124742605158) := id rfl
theorem zbW : (PgC l g).glb 100327547307650416 = some (.fn 100327547307650416) := id rfl
theorem zcQ : (PgC l g).glb 6013154419 = some (.fn 6013154419) := id rfl
theorem zby : (PgC l g).glb 27050993673148788582 = some (.fn 27050993673148788582) := id rfl
theorem zbX : (PgC l g).glb 104543109313949542 = some (.fn 104543109313949542) := id rfl
theorem zbz : (PgC l g).glb 26045266036471589989 = some (.fn 26045266036471589989) := id rfl
theorem zbY : (PgC l g).glb 104538767203525988 = some (.fn 104538767203525988) := id rfl
theorem zam : (PgC l g).glb 7614177814149658286333369749759332 = some (.fn 7614177814149658286333369749759332) := id rfl
theorem zbA : (PgC l g).glb 26689848079763268964 = some (.fn 26689848079763268964) := id rfl
theorem zbB : (PgC l g).glb 26477335546137898854 = some (.fn 26477335546137898854) := id rfl
theorem zag : (PgC l g).meth 91038937668284268 25319071553036771167 = some 194457990623467002731720290528779134031162615835562905597489545565136868464516194431661892529245385991427091357535 := id rfl
theorem zbC : (PgC l g).glb 26550255131573645166 = some (.fn 26550255131573645166) := id rfl
theorem zbD : (PgC l g).glb 25827140487513861990 = some (.fn 25827140487513861990) := id rfl
theorem zbE : (PgC l g).glb 25827991504983908724 = some (.fn 25827991504983908724) := id rfl
theorem zck : (PgC l g).glb 390831091446895 = some (.fn 390831091446895) := id rfl
theorem zbZ : (PgC l g).glb 101739320337068916 = some (.fn 101739320337068916) := id rfl
theorem zbf : (PgC l g).glb 6611964964349787203950 = some (.fn 6611964964349787203950) := id rfl
theorem zbF : (PgC l g).glb 25827988142192422245 = some (.fn 25827988142192422245) := id rfl
theorem zbG : (PgC l g).glb 25827988142192687220 = some (.fn 25827988142192687220) := id rfl
theorem zaN : (PgC l g).glb 453840253188586128076663150 = some (.fn 453840253188586128076663150) := id rfl
theorem zbg : (PgC l g).glb 6925052691476228959844 = some (.fn 6925052691476228959844) := id rfl
theorem zaX : (PgC l g).glb 1772758506815339922285413 = some (.fn 1772758506815339922285413) := id rfl
theorem zcA : (PgC l g).glb 1543763096930 = some (.fn 1543763096930) := id rfl
theorem zaC : (PgC l g).glb 114632105102705455381897896805 = some (.fn 114632105102705455381897896805) := id rfl
theorem zcl : (PgC l g).glb 390775174292846 = some (.fn 390775174292846) := id rfl
theorem zau : (PgC l g).meth 5476475252 25319071553036771167 = some 11697680140813699095553617261840367871545979128954689612172222715852675943943904352908445219913983994388319 := id rfl
theorem zaY : (PgC l g).glb 1739997520299507713011558 = some (.fn 1739997520299507713011558) := id rfl
theorem zb0 : (PgC l g).glb 103711934106397804 = some (.fn 103711934106397804) := id rfl
theorem zcm : (PgC l g).glb 395143239198066 = some (.fn 395143239198066) := id rfl
theorem zbh : (PgC l g).glb 6685749423849843160947 = some (.fn 6685749423849843160947) := id rfl
theorem zbi : (PgC l g).glb 6593442222075483746419 = some (.fn 6593442222075483746419) := id rfl
theorem zb1 : (PgC l g).glb 100887207483827566 = some (.fn 100887207483827566) := id rfl
theorem zbH : (PgC l g).glb 26547700982972641126 = some (.fn 26547700982972641126) := id rfl
theorem zaD : (PgC l g).glb 110619604343493981063185263717 = some (.fn 110619604343493981063185263717) := id rfl
theorem zb2 : (PgC l g).glb 100327547239952247 = some (.fn 100327547239952247) := id rfl
theorem zb3 : (PgC l g).glb 100327547340812144 = some (.fn 100327547340812144) := id rfl
theorem zcn : (PgC l g).glb 391904481406834 = some (.fn 391904481406834) := id rfl
theorem zbj : (PgC l g).glb 6758820052925821382509 = some (.fn 6758820052925821382509) := id rfl
theorem zah : (PgC l g).meth 91880068406736238 25319071553036771167 = some 196254634976314992399582029673955626514985301736485678804054381246074043110747630893076508655770246495932903612255 := id rfl
theorem zav : (PgC l g).meth 91880068406736238 1612482507880 = some 196254634976314992399582029673955626514985301736485678804054381246074043110747630893076508655744927425992349348968 := id rfl
theorem zaw : (PgC l g).meth 91880068406736238 1612364868709 = some 196254634976314992399582029673955626514985301736485678804054381246074043110747630893076508655744927425992231709797 := id rfl
theorem zab : (PgC l g).meth 91880068406736238 29661483944662927586511842012517 = some 196254634976314992399582029673955626514985301736485678804054381246074043110747630922737992600407855010891708853605 := id rfl
theorem zax : (PgC l g).meth 91880068406736238 1595386327653 = some 196254634976314992399582029673955626514985301736485678804054381246074043110747630893076508655744927425975253168741 := id rfl
theorem zaE : (PgC l g).meth 91880068406736238 6181123443 = some 196254634976314992399582029673955626514985301736485678804054381246074043110747630893076508655744927424386047964531 := id rfl
theorem zaZ : (PgC l g).meth 91880068406736238 92015 = some 196254634976314992399582029673955626514985301736485678804054381246074043110747630893076508655744927424379866933103 := id rfl
theorem za0 : (PgC l g).atr 91038937668284268 6180924517 = true := id rfl
theorem za1 : (PgC l g).atr 91038937668284268 6130987892 = true := id rfl
theorem zai : (PgC l g).atr 91038937668284268 6610953639064984576372 = true := id rfl
theorem zaj : (PgC l g).atr 91038937668284268 25319071553036771167 = false := id rfl
theorem zb4 : (PgC l g).glb 91038937668284268 = some (.cls 91038937668284268) := id rfl
theorem zb5 : (PgC l g).atr 5476475252 6214874995 = true := id rfl
theorem zbk : (PgC l g).atr 5476475252 405085769393523 = true := id rfl
theorem zb6 : (PgC l g).atr 5476475252 5979075681 = true := id rfl
theorem zbI : (PgC l g).atr 5476475252 1582182265459 = true := id rfl
theorem zbJ : (PgC l g).atr 5476475252 1565237670003 = true := id rfl
theorem zco : (PgC l g).atr 5476475252 23490163 = true := id rfl
theorem zaF : (PgC l g).atr 5476475252 25319071553036771167 = false := id rfl
theorem zcR : (PgC l g).glb 5476475252 = some (.cls 5476475252) := id rfl
theorem za2 : (PgC l g).atr 91880068406736238 6013346164 = true := id rfl
theorem zaG : (PgC l g).atr 91880068406736238 411635780248947 = true := id rfl
theorem zan : (PgC l g).atr 91880068406736238 27052967330930716518 = true := id rfl
theorem za3 : (PgC l g).atr 91880068406736238 5946045555 = true := id rfl
theorem zaH : (PgC l g).atr 91880068406736238 391878846018675 = true := id rfl
theorem zay : (PgC l g).atr 91880068406736238 100046136923025260 = true := id rfl
theorem zaO : (PgC l g).atr 91880068406736238 1573827929459 = true := id rfl
theorem zak : (PgC l g).atr 91880068406736238 25319071553036771167 = false := id rfl
theorem zaI : (PgC l g).atr 91880068406736238 1612482507880 = false := id rfl
theorem zaJ : (PgC l g).atr 91880068406736238 1612364868709 = false := id rfl
theorem zac : (PgC l g).atr 91880068406736238 29661483944662927586511842012517 = false := id rfl
theorem zaK : (PgC l g).atr 91880068406736238 1595386327653 = false := id rfl
theorem zaP : (PgC l g).atr 91880068406736238 6181123443 = false := id rfl
theorem zbl : (PgC l g).atr 91880068406736238 92015 = false := id rfl
theorem zb7 : (PgC l g).glb 91880068406736238 = some (.cls 91880068406736238) := id rfl
theorem zdw : (PgC l g).glb 23881070 = some (.bi .len) := id rfl
theorem zdx : (PgC l g).glb 23159411 = some (.bi .abs) := id rfl
theorem zcB : (PgC l g).glb 1590772524901 = some (.bi .range) := id rfl
theorem za4 : (PgC l g).glb 1706903273020983629210469 = some (.bi .isinst) := id rfl
theorem zbm : (PgC l g).glb 6593447022513235260517 = some (.bi .enum) := id rfl
theorem zcS : (PgC l g).glb 5979595636 = some (.bi .dict) := id rfl
theorem zdy : (PgC l g).glb 23945592 = some (.bi .max) := id rfl
theorem zdz : (PgC l g).glb 24343666 = some (.bi .tstr) := id rfl
theorem zcC : (PgC l g).glb 1599698136165 = some (.bi .ttup) := id rfl
theorem zdA : (PgC l g).glb 1418770337875 = some (.tup [.str 1414223777620, .str 5542071632, .str 5491348559, .str 1405785167170, .str 5625497423, .str 371932697809486]) := id rfl
theorem zeN : (PgC l g).glb 402946902043240485290657106 = some (.int 255) := id rfl
end
end Mn
end
section
namespace Mn
set_option maxRecDepth 100000
noncomputable def F_law1 : MF := { params := [408345935179892], body := [MS.asg (MT.nam 23224679) (MX.lst [MX.slc (MX.loc 408345935179892) none (some (MX.cst (MV.int 9))), MX.cst (MV.int 0)]), MS.asg (MT.nam 6013346164) (MX.call (MX.glb 108760262707399004654086021485) [MX.loc 23224679]), MS.asg (MT.nam 408371637742693) (MX.call (MX.glb 91880068406736238) [MX.loc 6013346164, MX.call (MX.glb 5979595636) [MX.lst [MX.tup [MX.cst (MV.str 344), MX.cst (MV.int 0)]]], MX.glb 1659549907034316584678504, MX.cst (MV.int 16), MX.cst (MV.int 9)]), MS.asg (MT.tup [MT.nam 90484, MT.nam 6130069113, MT.nam 1522288389732]) (MX.tup [MX.cst (MV.int 0), MX.cst (MV.int 0), MX.cst (MV.int 0)]), MS.for_ (MT.nam 6248821358) (MX.call (MX.glb 1590772524901) [MX.cst (MV.int 6)]) [MS.asg (MT.nam 1522288389732) (MX.bin (Op.add) (MX.loc 1522288389732) (MX.ife (MX.cmp (MX.loc 6248821358) (Co.lt) (MX.cst (MV.int 5))) (MX.call (MX.glb 6482616824352480584055) [MX.loc 23224679, MX.cst (MV.int 9)]) (MX.cst (MV.int 60)))), MS.whl (MX.bop true [MX.cmp (MX.loc 6130069113) (Co.lt) (MX.loc 1522288389732), MX.cmp (MX.loc 90484) (Co.lt) (MX.call (MX.glb 23881070) [MX.att (MX.loc 6013346164) 6214874995])]) [MS.asg (MT.tup [MT.nam 90484, MT.nam 6130069113]) (MX.tup [MX.call (MX.glb 108760262707398718737978912631) [MX.loc 408371637742693, MX.loc 90484], MX.bin (Op.add) (MX.loc 6130069113) (MX.cst (MV.int 1))])], MS.asg (MT.nam 1612364868709) (MX.call (MX.glb 91880068406736238) [MX.loc 6013346164, MX.call (MX.glb 5979595636) [MX.lst [MX.tup [MX.cst (MV.str 344), MX.cst (MV.int 0)]]], MX.glb 1659549907034316584678504, MX.cst (MV.int 16), MX.cst (MV.int 9)]), MS.ife (MX.cmp (MX.mth (MX.loc 1612364868709) 92015 [MX.cst (MV.int 0), MX.loc 1522288389732]) (Co.ne) (MX.ife (MX.cmp (MX.loc 90484) (Co.eq) (MX.call (MX.glb 23881070) [MX.att (MX.loc 6013346164) 6214874995])) (MX.loc 90484) (MX.bin (Op.sub) (MX.cst (MV.int 0)) (MX.cst (MV.int 1))))) [MS.ret (some (MX.cst (MV.bool false)))] [], MS.ife (MX.cmp (MX.tup [MX.att (MX.loc 1612364868709) 1573827929459, MX.att (MX.loc 1612364868709) 411635780248947, MX.att (MX.att (MX.loc 1612364868709) 100046136923025260) 6180924517]) (Co.ne) (MX.tup [MX.att (MX.loc 408371637742693) 1573827929459, MX.att (MX.loc 408371637742693) 411635780248947, MX.att (MX.att (MX.loc 408371637742693) 100046136923025260) 6180924517])) [MS.ret (some (MX.cst (MV.bool false)))] []], MS.ret (some (MX.cmp (MX.lst [MX.sub (MX.sub (MX.att (MX.loc 408371637742693) 1573827929459) (MX.cst (MV.int 0))) (MX.cst (MV.int 0)), MX.sub (MX.sub (MX.att (MX.loc 408371637742693) 1573827929459) (MX.neg (MX.cst (MV.int 1)))) (MX.cst (MV.int 0))]) (Co.eq) (MX.lst [MX.cst (MV.str 5962296428), MX.cst (MV.str 1595202368633)])))] }
noncomputable def F__law_draw1 : MF := { params := [23224679, 1522120028023], body := [MS.asg (MT.nam 6231715700) (MX.sub (MX.loc 23224679) (MX.cst (MV.int 1))), MS.asg (MT.sub (MX.loc 23224679) (MX.cst (MV.int 1))) (MX.bin (Op.add) (MX.loc 6231715700) (MX.cst (MV.int 1))), MS.ret (some (MX.ife (MX.cmp (MX.loc 6231715700) (Co.lt) (MX.call (MX.glb 23881070) [MX.sub (MX.loc 23224679) (MX.cst (MV.int 0))])) (MX.bin (Op.mod) (MX.call (MX.glb 23159411) [MX.sub (MX.sub (MX.loc 23224679) (MX.cst (MV.int 0))) (MX.loc 6231715700)]) (MX.loc 1522120028023)) (MX.bin (Op.mod) (MX.bin (Op.add) (MX.bin (Op.add) (MX.bin (Op.mul) (MX.cst (MV.int 3)) (MX.loc 6231715700)) (MX.bin (Op.fdiv) (MX.loc 6231715700) (MX.cst (MV.int 2)))) (MX.cst (MV.int 1))) (MX.loc 1522120028023))))] }
noncomputable def F__law_worth1 : MF := { params := [6248621413, 411635780248947], body := [MS.ife (MX.cmp (MX.sub (MX.loc 6248621413) (MX.cst (MV.int 0))) (Co.eq) (MX.cst (MV.str 24339828))) [MS.ret (some (MX.sub (MX.loc 6248621413) (MX.cst (MV.int 1))))] [], MS.ife (MX.cmp (MX.sub (MX.loc 6248621413) (MX.cst (MV.int 0))) (Co.eq) (MX.cst (MV.str 6146846053))) [MS.ret (some (MX.sub (MX.loc 411635780248947) (MX.sub (MX.loc 6248621413) (MX.cst (MV.int 1)))))] [], MS.ife (MX.cmp (MX.sub (MX.loc 6248621413) (MX.cst (MV.int 0))) (Co.eq) (MX.cst (MV.str 6130987621))) [MS.ret (some (MX.bin (Op.add) (MX.sub (MX.loc 411635780248947) (MX.cst (MV.str 344))) (MX.sub (MX.loc 6248621413) (MX.cst (MV.int 1)))))] [], MS.ife (MX.cmp (MX.sub (MX.loc 6248621413) (MX.cst (MV.int 0))) (Co.eq) (MX.cst (MV.str 1522120028023))) [MS.ret (some (MX.ife (MX.cmp (MX.sub (MX.loc 411635780248947) (MX.cst (MV.str 344))) (Co.lt) (MX.sub (MX.loc 6248621413) (MX.cst (MV.int 1)))) (MX.bin (Op.sub) (MX.cst (MV.int 0)) (MX.cst (MV.int 1))) (MX.cst (MV.int 0))))] [], MS.ret (some (MX.ife (MX.cmp (MX.bin (Op.mod) (MX.sub (MX.loc 411635780248947) (MX.cst (MV.str 344))) (MX.cst (MV.int 2))) (Co.eq) (MX.cst (MV.int 1))) (MX.bin (Op.sub) (MX.cst (MV.int 0)) (MX.cst (MV.int 1))) (MX.cst (MV.int 0))))] }
noncomputable def F__law_let1 : MF := { params := [6130069113], body := [MS.ret (some (MX.tup [MX.cst (MV.str 21775700), MX.tup [MX.cst (MV.str 6146846053), MX.cst (MV.str 344)], MX.tup [MX.cst (MV.str 6130987621), MX.loc 6130069113]]))] }
noncomputable def F__law_program1 : MF := { params := [23224679], body := [MS.asg (MT.tup [MT.nam 407298013815923, MT.nam 6130987621]) (MX.tup [MX.bin (Op.add) (MX.cst (MV.int 1)) (MX.call (MX.glb 6482616824352480584055) [MX.loc 23224679, MX.cst (MV.int 2)]), MX.bin (Op.add) (MX.cst (MV.int 1)) (MX.call (MX.glb 6482616824352480584055) [MX.loc 23224679, MX.cst (MV.int 2)])]), MS.asg (MT.tup [MT.nam 1565068981108, MT.nam 408418949620837]) (MX.tup [MX.bin (Op.add) (MX.cst (MV.int 4)) (MX.call (MX.glb 6482616824352480584055) [MX.loc 23224679, MX.cst (MV.int 3)]), MX.bin (Op.add) (MX.cst (MV.int 2)) (MX.call (MX.glb 6482616824352480584055) [MX.loc 23224679, MX.cst (MV.int 2)])]), MS.asg (MT.nam 1565136938355) (MX.lst [MX.tup [MX.cst (MV.int 10), MX.lst [MX.tup [MX.cst (MV.str 21385042), MX.cst (MV.str 329), MX.tup [MX.cst (MV.str 24339828), MX.cst (MV.int 1)], MX.tup [MX.cst (MV.str 24339828), MX.loc 407298013815923], MX.cst (MV.none)], MX.tup [MX.cst (MV.str 1405785167170), MX.cst (MV.int 40)], MX.tup [MX.cst (MV.str 5608134740), MX.lst [MX.cst (MV.str 329)]]]]]), MS.exp (MX.mth (MX.loc 1565136938355) 388610526637668 [MX.tup [MX.cst (MV.int 20), MX.lst [MX.tup [MX.cst (MV.str 1474386545733), MX.tup [MX.cst (MV.str 1522120028023), MX.loc 1565068981108]], MX.call (MX.glb 25322721970127398260) [MX.loc 408418949620837], MX.tup [MX.cst (MV.str 22168909), MX.cst (MV.str 1612364475493)], MX.tup [MX.cst (MV.str 5759127108)]]]]), MS.exp (MX.mth (MX.loc 1565136938355) 388610526637668 [MX.tup [MX.cst (MV.int 30), MX.lst [MX.tup [MX.cst (MV.str 84294), MX.tup [MX.cst (MV.str 24077412)], MX.lst [MX.tup [MX.cst (MV.str 22168909), MX.cst (MV.str 24077412)]], MX.lst [MX.tup [MX.cst (MV.str 22168909), MX.cst (MV.str 5997225326)]]], MX.tup [MX.cst (MV.str 5625497423), MX.cst (MV.str 5491348559), MX.tup [MX.cst (MV.str 6146846053), MX.cst (MV.str 329)], MX.lst [MX.cst (MV.int 60), MX.cst (MV.int 50), MX.cst (MV.int 60)]], MX.tup [MX.cst (MV.str 21319236)]]]]), MS.exp (MX.mth (MX.loc 1565136938355) 388610526637668 [MX.tup [MX.cst (MV.int 40), MX.lst [MX.call (MX.glb 25322721970127398260) [MX.loc 6130987621], MX.tup [MX.cst (MV.str 22168909), MX.cst (MV.str 5962296428)], MX.tup [MX.cst (MV.str 371932697809486), MX.cst (MV.none)]]]]), MS.exp (MX.mth (MX.loc 1565136938355) 388610526637668 [MX.tup [MX.cst (MV.int 50), MX.lst [MX.call (MX.glb 25322721970127398260) [MX.bin (Op.sub) (MX.cst (MV.int 0)) (MX.cst (MV.int 1))], MX.tup [MX.cst (MV.str 22168909), MX.cst (MV.str 1539366614137)]]]]), MS.ret (some (MX.call (MX.glb 100887207483827566) [MX.bin (Op.add) (MX.loc 1565136938355) (MX.lst [MX.tup [MX.cst (MV.int 60), MX.lst [MX.tup [MX.cst (MV.str 22168909), MX.cst (MV.str 1595202368633)], MX.tup [MX.cst (MV.str 21319236)]]]])]))] }
noncomputable def F__law_one_row1 : MF := { params := [24278382, 90484], body := [MS.asg (MT.nam 6852128163306360106612) (MX.sub (MX.sub (MX.att (MX.att (MX.loc 24278382) 6013346164) 6214874995) (MX.loc 90484)) (MX.cst (MV.int 1))), MS.ife (MX.cmp (MX.sub (MX.loc 6852128163306360106612) (MX.cst (MV.int 0))) (Co.eq) (MX.cst (MV.str 21775700))) [MS.asg (MT.sub (MX.att (MX.loc 24278382) 411635780248947) (MX.cst (MV.str 344))) (MX.call (MX.glb 1659549907034316584678504) [MX.sub (MX.loc 6852128163306360106612) (MX.cst (MV.int 2)), MX.att (MX.loc 24278382) 411635780248947]), MS.ret (some (MX.bin (Op.add) (MX.loc 90484) (MX.cst (MV.int 1))))] [], MS.ife (MX.cmp (MX.sub (MX.loc 6852128163306360106612) (MX.cst (MV.int 0))) (Co.eq) (MX.cst (MV.str 22168909))) [MS.exp (MX.mth (MX.att (MX.loc 24278382) 1573827929459) 388610526637668 [MX.tup [MX.sub (MX.loc 6852128163306360106612) (MX.cst (MV.int 1)), MX.sub (MX.att (MX.loc 24278382) 411635780248947) (MX.cst (MV.str 344))]]), MS.ret (some (MX.bin (Op.add) (MX.loc 90484) (MX.cst (MV.int 1))))] [], MS.ret (some (MX.ife (MX.cmp (MX.sub (MX.loc 6852128163306360106612) (MX.cst (MV.int 0))) (Co.eq) (MX.cst (MV.str 21319236))) (MX.call (MX.glb 23881070) [MX.att (MX.att (MX.loc 24278382) 6013346164) 6214874995]) (MX.call (MX.glb 100327547239952247) [MX.loc 24278382, MX.loc 90484, MX.loc 6852128163306360106612])))] }
noncomputable def lf1 : List (Nat × MF) := [(23880055, F_law1), (6482616824352480584055, F__law_draw1), (1659549907034316584678504, F__law_worth1), (25322721970127398260, F__law_let1), (108760262707399004654086021485, F__law_program1), (108760262707398718737978912631, F__law_one_row1)]
noncomputable def lg1 : List (Nat × MV) := [(23880055, .fn 23880055), (6482616824352480584055, .fn 6482616824352480584055), (1659549907034316584678504, .fn 1659549907034316584678504), (25322721970127398260, .fn 25322721970127398260), (108760262707399004654086021485, .fn 108760262707399004654086021485), (108760262707398718737978912631, .fn 108760262707398718737978912631)]
theorem f1_F_law : (PgC lf1 lg1).fns 23880055 = some F_law1 := rfl
theorem g1_F_law : (PgC lf1 lg1).glb 23880055 = some (.fn 23880055) := rfl
theorem f1_F__law_draw : (PgC lf1 lg1).fns 6482616824352480584055 = some F__law_draw1 := rfl
theorem g1_F__law_draw : (PgC lf1 lg1).glb 6482616824352480584055 = some (.fn 6482616824352480584055) := rfl
theorem f1_F__law_worth : (PgC lf1 lg1).fns 1659549907034316584678504 = some F__law_worth1 := rfl
theorem g1_F__law_worth : (PgC lf1 lg1).glb 1659549907034316584678504 = some (.fn 1659549907034316584678504) := rfl
theorem f1_F__law_let : (PgC lf1 lg1).fns 25322721970127398260 = some F__law_let1 := rfl
theorem g1_F__law_let : (PgC lf1 lg1).glb 25322721970127398260 = some (.fn 25322721970127398260) := rfl
theorem f1_F__law_program : (PgC lf1 lg1).fns 108760262707399004654086021485 = some F__law_program1 := rfl
theorem g1_F__law_program : (PgC lf1 lg1).glb 108760262707399004654086021485 = some (.fn 108760262707399004654086021485) := rfl
theorem f1_F__law_one_row : (PgC lf1 lg1).fns 108760262707398718737978912631 = some F__law_one_row1 := rfl
theorem g1_F__law_one_row : (PgC lf1 lg1).glb 108760262707398718737978912631 = some (.fn 108760262707398718737978912631) := rfl
end Mn
end
section
set_option maxRecDepth 100000
namespace Mn.Mg
theorem idx_0 (a : MV) (l : List MV) : idx (a :: l) 0 = some a := rfl
theorem idx_1 (a b : MV) (l : List MV) : idx (a :: b :: l) 1 = some b := rfl
theorem idx_2 (a b c : MV) (l : List MV) : idx (a :: b :: c :: l) 2 = some c := rfl
theorem idx_3 (a b c d : MV) (l : List MV) : idx (a :: b :: c :: d :: l) 3 = some d := rfl
def IX := And.intro @idx_0 (And.intro @idx_1 (And.intro @idx_2 @idx_3))
theorem idx_nat (vs : List MV) {i : Int} (k : Nat) (hi : i = k) (h : k < 1073741824) : idxL vs i = vs[k]? := by
  subst hi
  exact (if_neg (by omega)).trans (if_pos ⟨Int.natCast_nonneg k, by omega⟩)
theorem fmod_range (a b : Int) (hb : 0 < b) : 0 ≤ Int.fmod a b ∧ Int.fmod a b < b := by
  rw [Int.fmod_eq_emod_of_nonneg _ (by omega)]
  exact ⟨Int.emod_nonneg _ (by omega), Int.emod_lt_of_pos _ hb⟩
theorem castS (k : Nat) : ((k + 1 : Nat) : Int) = (k : Int) + 1 := rfl
noncomputable def sgn (s : Int) : Int := (if decide (s > 0) then 1 else 0) - (if decide (s < 0) then 1 else 0)
noncomputable def cmp3 (a b : Int) : Int := (if decide (a > b) then 1 else 0) - (if decide (a < b) then 1 else 0)
theorem cmp3_lt (l v : Int) : (cmp3 l v < 0) ↔ l < v := by
  unfold cmp3
  by_cases q : l > v <;> by_cases q' : l < v <;> simp [q, q'] <;> omega
section
variable (n d : Nat)
theorem fits_ok (i : Int) (h1 : -32768 ≤ i) (h2 : i < 32768) (H : MH) : (ev (PgC lf1 lg1) (n + 20) (d + 2)).c (.fn 6013154419) [.int i, .int 16] H = some (.bool true, H) := by
  rw [ec_fn, callF_ _ _ _ zcP rfl rfl]
  simp only [zdH,zdI,zdJ,zdK,zdL,zdM,zdN,zdO,zdP,zdQ,zc2,zdR,zdS,zdT,zdU,zc3,zdV,zdW,zdX,zdY,zc4,zfP,zfQ,zfR,zfS,zdZ,zd0,zd1,zd2,zd3,zd4,zd5,zd6,zc5,zc6,zd7,zd8,zd9,zea,zeb,zec,zed,zc7,zc8,zee,zhd,zhe,zc9,zda,zdb,zdc,zdd,zde,zfT,zfU,zfV,zef,zeg,zdf,zdg,zdh,zdi,zeh,zei,zfW,zfX,zfY,zdj,zdk,zdl,zdm,zdn,zfZ,zej,zdo,zek,zf0,zf1,zdp,zdq,zdr,zel,zem,zen,zeo,zds,zdt,zdu,zf2,zf3,zep,zf4,zeq,zf5,zf6,zf7,zf8,zf9,zga,zer,zgb,zgc,zgd,zes,zge,zet,zeu,zgf,zev,zgg,zgh,zgi,zew,zgj,zgk,zgl,zgm,zgn,zgo,zex,zgp,zey,zez,zeA,zeB,zeC,zeD,zdv,zeE,zhf,zgq,zeF,zgr,zeG,zgs,zgt,zgu,zgv,zgw,zgx,zeH,zeI,zeJ,zgy,zgz,zeK,zgA,zeL,zeM,zgB,zgC,zhg,za8,zbM,zce,zbN,zcP,zbo,zbO,zbp,zbP,zal,zbq,zbr,zae,zbs,zbt,zbu,zcf,zbQ,za9,zbv,zbw,zaM,zba,zaU,zcz,zaz,zcg,zaq,zaV,zbR,zch,zbb,zbc,zbS,zbx,zaA,zbT,zbU,zci,zbd,zaf,zar,zas,zaa,zat,zaB,zaW,zbe,zbV,zcj,zbW,zcQ,zby,zbX,zbz,zbY,zam,zbA,zbB,zag,zbC,zbD,zbE,zck,zbZ,zbf,zbF,zbG,zaN,zbg,zaX,zcA,zaC,zcl,zau,zaY,zb0,zcm,zbh,zbi,zb1,zbH,zaD,zb2,zb3,zcn,zbj,zah,zav,zaw,zab,zax,zaE,zaZ,za0,za1,zai,zaj,zb4,zb5,zbk,zb6,zbI,zbJ,zco,zaF,zcR,za2,zaG,zan,za3,zaH,zay,zaO,zak,zaI,zaJ,zac,zaK,zaP,zbl,zb7,zdw,zdx,zcB,za4,zbm,zcS,zdy,zdz,zcC,zdA,zeN,zeO,zdB,zdC,zgD,zeP,zeQ,zgE,zeR,zeS,zgF,zgG,zgH,zgI,zgJ,zeT,zeU,zeV,zeW,zeX,zgK,zeY,zeZ,ze0,ze1,ze2,ze3,zgL,zgM,zgN,ze4,zdD,zgO,ze5,ze6,ze7,zgP,zgQ,zgR,zgS,ze8,zgT,ze9,zfa,zfb,zfc,zfd,zfe,zff,zdE,zcT,zcU,zcV,zcD,zcE,zfg,zfh,zfi,zfj,zfk,zgU,zfl,zfm,zfn,zgV,zgW,zgX,zgY,zgZ,zfo,zfp,zfq,zfr,zg0,zg1,zg2,zg3,zfs,zft,zg4,zfu,zfv,zfw,zfx,zfy,zdF,zfz,zfA,zfB,zfC,zfD,zg5,zfE,zg6,zg7,zg8,zg9,zha,zhb,zfF,zfG,zfH,zfI,zhc,zfJ,zfK,zfL,zfM,zfN,zb8,zcF,zcW,zcG,zfO,zcp,zcH,zcq,zcI,zaL,zcr,zcs,zao,zct,zcu,zcv,zcX,zcJ,zb9,zcw,zcx,zbn,zca,zbK,zdG,za5,zcY,zaQ,zbL,zcK,zcZ,zcb,zcc,zcL,zcy,za6,zcM,zcN,zc0,zcd,zap,zaR,zaS,zad,zaT,za7,F_FlowRun_go,if_true,if_false,zhh,zhi,cond_true,cond_false,List.zip,List.zipWith,List.length_cons,List.length_nil,Option.isSome_some,Bool.false_eq_true,reduceIte,reduceCtorEq,Nat.reduceEqDiff,Nat.reduceAdd,Nat.reduceLeDiff,Int.cast_ofNat_Int,decide_true,decide_false,Bool.and_true,Bool.true_and,Bool.and_false,Bool.false_and,Int.sub_zero,Int.reduceNeg,Nat.reduceLT,and_self,and_true,true_and,Bool.false_or,Bool.or_false,Bool.true_or,Bool.or_true,Bool.not_true,Bool.not_false,Int.natAbs_neg,Int.reduceSub,Int.reduceAdd,Int.reduceToNat,Int.natAbs_zero,Int.natAbs_one,Int.reduceLT,Int.reduceLE,Int.reduceGE,Int.reduceGT,decide_eq_true_eq,List.getElem?_cons_zero,List.getElem?_cons_succ,Nat.reduceSub,Int.reduceMul,Nat.reduceBEq,Nat.reducePow,Int.reducePow,and_false,false_and,eq_self,zc1,zcO _ _ zcB,IX,lim,F__law_worth1,F__law_draw1,h1,h2]
theorem whole_ok (i : Int) (h1 : -32768 ≤ i) (h2 : i < 32768) (H : MH) : (ev (PgC lf1 lg1) (n + 40) (d + 4)).c (.fn 27050993673148788582) [.int i, .int 16] H = some (.int i, H) := by
  rw [ec_fn, callF_ _ _ _ zbo rfl rfl]
  simp only [zdH,zdI,zdJ,zdK,zdL,zdM,zdN,zdO,zdP,zdQ,zc2,zdR,zdS,zdT,zdU,zc3,zdV,zdW,zdX,zdY,zc4,zfP,zfQ,zfR,zfS,zdZ,zd0,zd1,zd2,zd3,zd4,zd5,zd6,zc5,zc6,zd7,zd8,zd9,zea,zeb,zec,zed,zc7,zc8,zee,zhd,zhe,zc9,zda,zdb,zdc,zdd,zde,zfT,zfU,zfV,zef,zeg,zdf,zdg,zdh,zdi,zeh,zei,zfW,zfX,zfY,zdj,zdk,zdl,zdm,zdn,zfZ,zej,zdo,zek,zf0,zf1,zdp,zdq,zdr,zel,zem,zen,zeo,zds,zdt,zdu,zf2,zf3,zep,zf4,zeq,zf5,zf6,zf7,zf8,zf9,zga,zer,zgb,zgc,zgd,zes,zge,zet,zeu,zgf,zev,zgg,zgh,zgi,zew,zgj,zgk,zgl,zgm,zgn,zgo,zex,zgp,zey,zez,zeA,zeB,zeC,zeD,zdv,zeE,zhf,zgq,zeF,zgr,zeG,zgs,zgt,zgu,zgv,zgw,zgx,zeH,zeI,zeJ,zgy,zgz,zeK,zgA,zeL,zeM,zgB,zgC,zhg,za8,zbM,zce,zbN,zcP,zbo,zbO,zbp,zbP,zal,zbq,zbr,zae,zbs,zbt,zbu,zcf,zbQ,za9,zbv,zbw,zaM,zba,zaU,zcz,zaz,zcg,zaq,zaV,zbR,zch,zbb,zbc,zbS,zbx,zaA,zbT,zbU,zci,zbd,zaf,zar,zas,zaa,zat,zaB,zaW,zbe,zbV,zcj,zbW,zcQ,zby,zbX,zbz,zbY,zam,zbA,zbB,zag,zbC,zbD,zbE,zck,zbZ,zbf,zbF,zbG,zaN,zbg,zaX,zcA,zaC,zcl,zau,zaY,zb0,zcm,zbh,zbi,zb1,zbH,zaD,zb2,zb3,zcn,zbj,zah,zav,zaw,zab,zax,zaE,zaZ,za0,za1,zai,zaj,zb4,zb5,zbk,zb6,zbI,zbJ,zco,zaF,zcR,za2,zaG,zan,za3,zaH,zay,zaO,zak,zaI,zaJ,zac,zaK,zaP,zbl,zb7,zdw,zdx,zcB,za4,zbm,zcS,zdy,zdz,zcC,zdA,zeN,zeO,zdB,zdC,zgD,zeP,zeQ,zgE,zeR,zeS,zgF,zgG,zgH,zgI,zgJ,zeT,zeU,zeV,zeW,zeX,zgK,zeY,zeZ,ze0,ze1,ze2,ze3,zgL,zgM,zgN,ze4,zdD,zgO,ze5,ze6,ze7,zgP,zgQ,zgR,zgS,ze8,zgT,ze9,zfa,zfb,zfc,zfd,zfe,zff,zdE,zcT,zcU,zcV,zcD,zcE,zfg,zfh,zfi,zfj,zfk,zgU,zfl,zfm,zfn,zgV,zgW,zgX,zgY,zgZ,zfo,zfp,zfq,zfr,zg0,zg1,zg2,zg3,zfs,zft,zg4,zfu,zfv,zfw,zfx,zfy,zdF,zfz,zfA,zfB,zfC,zfD,zg5,zfE,zg6,zg7,zg8,zg9,zha,zhb,zfF,zfG,zfH,zfI,zhc,zfJ,zfK,zfL,zfM,zfN,zb8,zcF,zcW,zcG,zfO,zcp,zcH,zcq,zcI,zaL,zcr,zcs,zao,zct,zcu,zcv,zcX,zcJ,zb9,zcw,zcx,zbn,zca,zbK,zdG,za5,zcY,zaQ,zbL,zcK,zcZ,zcb,zcc,zcL,zcy,za6,zcM,zcN,zc0,zcd,zap,zaR,zaS,zad,zaT,za7,F_FlowRun_go,if_true,if_false,zhh,zhi,cond_true,cond_false,List.zip,List.zipWith,List.length_cons,List.length_nil,Option.isSome_some,Bool.false_eq_true,reduceIte,reduceCtorEq,Nat.reduceEqDiff,Nat.reduceAdd,Nat.reduceLeDiff,Int.cast_ofNat_Int,decide_true,decide_false,Bool.and_true,Bool.true_and,Bool.and_false,Bool.false_and,Int.sub_zero,Int.reduceNeg,Nat.reduceLT,and_self,and_true,true_and,Bool.false_or,Bool.or_false,Bool.true_or,Bool.or_true,Bool.not_true,Bool.not_false,Int.natAbs_neg,Int.reduceSub,Int.reduceAdd,Int.reduceToNat,Int.natAbs_zero,Int.natAbs_one,Int.reduceLT,Int.reduceLE,Int.reduceGE,Int.reduceGT,decide_eq_true_eq,List.getElem?_cons_zero,List.getElem?_cons_succ,Nat.reduceSub,Int.reduceMul,Nat.reduceBEq,Nat.reducePow,Int.reducePow,and_false,false_and,eq_self,zc1,zcO _ _ zcB,IX,lim,F__law_worth1,F__law_draw1,fun n d => fits_ok n d i h1 h2]
theorem chosen_ok (i : Int) (h1 : 1 ≤ i) (h2 : i ≤ 3) (H : MH) : (ev (PgC lf1 lg1) (n + 40) (d + 4)).c (.fn 390775174292846) [.int i, .int 3] H = some (.int (i - 1), H) := by
  rw [ec_fn, callF_ _ _ _ zcg rfl rfl]
  have b1 : 0 ≤ i := by omega
  have b2 : i ≤ 255 := by omega
  simp only [zdH,zdI,zdJ,zdK,zdL,zdM,zdN,zdO,zdP,zdQ,zc2,zdR,zdS,zdT,zdU,zc3,zdV,zdW,zdX,zdY,zc4,zfP,zfQ,zfR,zfS,zdZ,zd0,zd1,zd2,zd3,zd4,zd5,zd6,zc5,zc6,zd7,zd8,zd9,zea,zeb,zec,zed,zc7,zc8,zee,zhd,zhe,zc9,zda,zdb,zdc,zdd,zde,zfT,zfU,zfV,zef,zeg,zdf,zdg,zdh,zdi,zeh,zei,zfW,zfX,zfY,zdj,zdk,zdl,zdm,zdn,zfZ,zej,zdo,zek,zf0,zf1,zdp,zdq,zdr,zel,zem,zen,zeo,zds,zdt,zdu,zf2,zf3,zep,zf4,zeq,zf5,zf6,zf7,zf8,zf9,zga,zer,zgb,zgc,zgd,zes,zge,zet,zeu,zgf,zev,zgg,zgh,zgi,zew,zgj,zgk,zgl,zgm,zgn,zgo,zex,zgp,zey,zez,zeA,zeB,zeC,zeD,zdv,zeE,zhf,zgq,zeF,zgr,zeG,zgs,zgt,zgu,zgv,zgw,zgx,zeH,zeI,zeJ,zgy,zgz,zeK,zgA,zeL,zeM,zgB,zgC,zhg,za8,zbM,zce,zbN,zcP,zbo,zbO,zbp,zbP,zal,zbq,zbr,zae,zbs,zbt,zbu,zcf,zbQ,za9,zbv,zbw,zaM,zba,zaU,zcz,zaz,zcg,zaq,zaV,zbR,zch,zbb,zbc,zbS,zbx,zaA,zbT,zbU,zci,zbd,zaf,zar,zas,zaa,zat,zaB,zaW,zbe,zbV,zcj,zbW,zcQ,zby,zbX,zbz,zbY,zam,zbA,zbB,zag,zbC,zbD,zbE,zck,zbZ,zbf,zbF,zbG,zaN,zbg,zaX,zcA,zaC,zcl,zau,zaY,zb0,zcm,zbh,zbi,zb1,zbH,zaD,zb2,zb3,zcn,zbj,zah,zav,zaw,zab,zax,zaE,zaZ,za0,za1,zai,zaj,zb4,zb5,zbk,zb6,zbI,zbJ,zco,zaF,zcR,za2,zaG,zan,za3,zaH,zay,zaO,zak,zaI,zaJ,zac,zaK,zaP,zbl,zb7,zdw,zdx,zcB,za4,zbm,zcS,zdy,zdz,zcC,zdA,zeN,zeO,zdB,zdC,zgD,zeP,zeQ,zgE,zeR,zeS,zgF,zgG,zgH,zgI,zgJ,zeT,zeU,zeV,zeW,zeX,zgK,zeY,zeZ,ze0,ze1,ze2,ze3,zgL,zgM,zgN,ze4,zdD,zgO,ze5,ze6,ze7,zgP,zgQ,zgR,zgS,ze8,zgT,ze9,zfa,zfb,zfc,zfd,zfe,zff,zdE,zcT,zcU,zcV,zcD,zcE,zfg,zfh,zfi,zfj,zfk,zgU,zfl,zfm,zfn,zgV,zgW,zgX,zgY,zgZ,zfo,zfp,zfq,zfr,zg0,zg1,zg2,zg3,zfs,zft,zg4,zfu,zfv,zfw,zfx,zfy,zdF,zfz,zfA,zfB,zfC,zfD,zg5,zfE,zg6,zg7,zg8,zg9,zha,zhb,zfF,zfG,zfH,zfI,zhc,zfJ,zfK,zfL,zfM,zfN,zb8,zcF,zcW,zcG,zfO,zcp,zcH,zcq,zcI,zaL,zcr,zcs,zao,zct,zcu,zcv,zcX,zcJ,zb9,zcw,zcx,zbn,zca,zbK,zdG,za5,zcY,zaQ,zbL,zcK,zcZ,zcb,zcc,zcL,zcy,za6,zcM,zcN,zc0,zcd,zap,zaR,zaS,zad,zaT,za7,F_FlowRun_go,if_true,if_false,zhh,zhi,cond_true,cond_false,List.zip,List.zipWith,List.length_cons,List.length_nil,Option.isSome_some,Bool.false_eq_true,reduceIte,reduceCtorEq,Nat.reduceEqDiff,Nat.reduceAdd,Nat.reduceLeDiff,Int.cast_ofNat_Int,decide_true,decide_false,Bool.and_true,Bool.true_and,Bool.and_false,Bool.false_and,Int.sub_zero,Int.reduceNeg,Nat.reduceLT,and_self,and_true,true_and,Bool.false_or,Bool.or_false,Bool.true_or,Bool.or_true,Bool.not_true,Bool.not_false,Int.natAbs_neg,Int.reduceSub,Int.reduceAdd,Int.reduceToNat,Int.natAbs_zero,Int.natAbs_one,Int.reduceLT,Int.reduceLE,Int.reduceGE,Int.reduceGT,decide_eq_true_eq,List.getElem?_cons_zero,List.getElem?_cons_succ,Nat.reduceSub,Int.reduceMul,Nat.reduceBEq,Nat.reducePow,Int.reducePow,and_false,false_and,eq_self,zc1,zcO _ _ zcB,IX,lim,F__law_worth1,F__law_draw1,b1,b2,h1,h2]
theorem nought_ok (i : Int) (H : MH) : (ev (PgC lf1 lg1) (n + 20) (d + 2)).c (.fn 6667588095471287494772) [.int i] H = some (.bool (decide (i = 0)), H) := rfl
theorem true_ok (i : Int) (H : MH) : (ev (PgC lf1 lg1) (n + 30) (d + 4)).c (.fn 101739320405292389) [.int i] H = some (.bool (!decide (i = 0)), H) := by
  rw [ec_fn, callF_ _ _ _ zbM rfl rfl]
  simp only [zdH,zdI,zdJ,zdK,zdL,zdM,zdN,zdO,zdP,zdQ,zc2,zdR,zdS,zdT,zdU,zc3,zdV,zdW,zdX,zdY,zc4,zfP,zfQ,zfR,zfS,zdZ,zd0,zd1,zd2,zd3,zd4,zd5,zd6,zc5,zc6,zd7,zd8,zd9,zea,zeb,zec,zed,zc7,zc8,zee,zhd,zhe,zc9,zda,zdb,zdc,zdd,zde,zfT,zfU,zfV,zef,zeg,zdf,zdg,zdh,zdi,zeh,zei,zfW,zfX,zfY,zdj,zdk,zdl,zdm,zdn,zfZ,zej,zdo,zek,zf0,zf1,zdp,zdq,zdr,zel,zem,zen,zeo,zds,zdt,zdu,zf2,zf3,zep,zf4,zeq,zf5,zf6,zf7,zf8,zf9,zga,zer,zgb,zgc,zgd,zes,zge,zet,zeu,zgf,zev,zgg,zgh,zgi,zew,zgj,zgk,zgl,zgm,zgn,zgo,zex,zgp,zey,zez,zeA,zeB,zeC,zeD,zdv,zeE,zhf,zgq,zeF,zgr,zeG,zgs,zgt,zgu,zgv,zgw,zgx,zeH,zeI,zeJ,zgy,zgz,zeK,zgA,zeL,zeM,zgB,zgC,zhg,za8,zbM,zce,zbN,zcP,zbo,zbO,zbp,zbP,zal,zbq,zbr,zae,zbs,zbt,zbu,zcf,zbQ,za9,zbv,zbw,zaM,zba,zaU,zcz,zaz,zcg,zaq,zaV,zbR,zch,zbb,zbc,zbS,zbx,zaA,zbT,zbU,zci,zbd,zaf,zar,zas,zaa,zat,zaB,zaW,zbe,zbV,zcj,zbW,zcQ,zby,zbX,zbz,zbY,zam,zbA,zbB,zag,zbC,zbD,zbE,zck,zbZ,zbf,zbF,zbG,zaN,zbg,zaX,zcA,zaC,zcl,zau,zaY,zb0,zcm,zbh,zbi,zb1,zbH,zaD,zb2,zb3,zcn,zbj,zah,zav,zaw,zab,zax,zaE,zaZ,za0,za1,zai,zaj,zb4,zb5,zbk,zb6,zbI,zbJ,zco,zaF,zcR,za2,zaG,zan,za3,zaH,zay,zaO,zak,zaI,zaJ,zac,zaK,zaP,zbl,zb7,zdw,zdx,zcB,za4,zbm,zcS,zdy,zdz,zcC,zdA,zeN,zeO,zdB,zdC,zgD,zeP,zeQ,zgE,zeR,zeS,zgF,zgG,zgH,zgI,zgJ,zeT,zeU,zeV,zeW,zeX,zgK,zeY,zeZ,ze0,ze1,ze2,ze3,zgL,zgM,zgN,ze4,zdD,zgO,ze5,ze6,ze7,zgP,zgQ,zgR,zgS,ze8,zgT,ze9,zfa,zfb,zfc,zfd,zfe,zff,zdE,zcT,zcU,zcV,zcD,zcE,zfg,zfh,zfi,zfj,zfk,zgU,zfl,zfm,zfn,zgV,zgW,zgX,zgY,zgZ,zfo,zfp,zfq,zfr,zg0,zg1,zg2,zg3,zfs,zft,zg4,zfu,zfv,zfw,zfx,zfy,zdF,zfz,zfA,zfB,zfC,zfD,zg5,zfE,zg6,zg7,zg8,zg9,zha,zhb,zfF,zfG,zfH,zfI,zhc,zfJ,zfK,zfL,zfM,zfN,zb8,zcF,zcW,zcG,zfO,zcp,zcH,zcq,zcI,zaL,zcr,zcs,zao,zct,zcu,zcv,zcX,zcJ,zb9,zcw,zcx,zbn,zca,zbK,zdG,za5,zcY,zaQ,zbL,zcK,zcZ,zcb,zcc,zcL,zcy,za6,zcM,zcN,zc0,zcd,zap,zaR,zaS,zad,zaT,za7,F_FlowRun_go,if_true,if_false,zhh,zhi,cond_true,cond_false,List.zip,List.zipWith,List.length_cons,List.length_nil,Option.isSome_some,Bool.false_eq_true,reduceIte,reduceCtorEq,Nat.reduceEqDiff,Nat.reduceAdd,Nat.reduceLeDiff,Int.cast_ofNat_Int,decide_true,decide_false,Bool.and_true,Bool.true_and,Bool.and_false,Bool.false_and,Int.sub_zero,Int.reduceNeg,Nat.reduceLT,and_self,and_true,true_and,Bool.false_or,Bool.or_false,Bool.true_or,Bool.or_true,Bool.not_true,Bool.not_false,Int.natAbs_neg,Int.reduceSub,Int.reduceAdd,Int.reduceToNat,Int.natAbs_zero,Int.natAbs_one,Int.reduceLT,Int.reduceLE,Int.reduceGE,Int.reduceGT,decide_eq_true_eq,List.getElem?_cons_zero,List.getElem?_cons_succ,Nat.reduceSub,Int.reduceMul,Nat.reduceBEq,Nat.reducePow,Int.reducePow,and_false,false_and,eq_self,zc1,zcO _ _ zcB,IX,lim,F__law_worth1,F__law_draw1,nought_ok]
theorem sign_1 (H : MH) : (ev (PgC lf1 lg1) (n + 20) (d + 2)).c (.fn 104543109313949542) [.int 1] H = some (.int 1, H) := rfl
theorem isw_ok (i : Int) (H : MH) : (ev (PgC lf1 lg1) (n + 20) (d + 2)).c (.fn 26045266036471589989) [.int i] H = some (.bool true, H) := rfl
theorem order_ok (i j : Int) (H : MH) : (ev (PgC lf1 lg1) (n + 30) (d + 4)).c (.fn 26477335546137898854) [.int i, .int j] H = some (.int (cmp3 i j), H) := rfl
theorem past_ok (v l' : Int) (H : MH) : (ev (PgC lf1 lg1) (n + 50) (d + 6)).c (.fn 101739320337068916) [.int v, .int l', .int 1, .fn 26477335546137898854] H = some (.bool (decide (l' < v)), H) := by
  rw [ec_fn, callF_ _ _ _ zbQ rfl rfl]
  simp only [zdH,zdI,zdJ,zdK,zdL,zdM,zdN,zdO,zdP,zdQ,zc2,zdR,zdS,zdT,zdU,zc3,zdV,zdW,zdX,zdY,zc4,zfP,zfQ,zfR,zfS,zdZ,zd0,zd1,zd2,zd3,zd4,zd5,zd6,zc5,zc6,zd7,zd8,zd9,zea,zeb,zec,zed,zc7,zc8,zee,zhd,zhe,zc9,zda,zdb,zdc,zdd,zde,zfT,zfU,zfV,zef,zeg,zdf,zdg,zdh,zdi,zeh,zei,zfW,zfX,zfY,zdj,zdk,zdl,zdm,zdn,zfZ,zej,zdo,zek,zf0,zf1,zdp,zdq,zdr,zel,zem,zen,zeo,zds,zdt,zdu,zf2,zf3,zep,zf4,zeq,zf5,zf6,zf7,zf8,zf9,zga,zer,zgb,zgc,zgd,zes,zge,zet,zeu,zgf,zev,zgg,zgh,zgi,zew,zgj,zgk,zgl,zgm,zgn,zgo,zex,zgp,zey,zez,zeA,zeB,zeC,zeD,zdv,zeE,zhf,zgq,zeF,zgr,zeG,zgs,zgt,zgu,zgv,zgw,zgx,zeH,zeI,zeJ,zgy,zgz,zeK,zgA,zeL,zeM,zgB,zgC,zhg,za8,zbM,zce,zbN,zcP,zbo,zbO,zbp,zbP,zal,zbq,zbr,zae,zbs,zbt,zbu,zcf,zbQ,za9,zbv,zbw,zaM,zba,zaU,zcz,zaz,zcg,zaq,zaV,zbR,zch,zbb,zbc,zbS,zbx,zaA,zbT,zbU,zci,zbd,zaf,zar,zas,zaa,zat,zaB,zaW,zbe,zbV,zcj,zbW,zcQ,zby,zbX,zbz,zbY,zam,zbA,zbB,zag,zbC,zbD,zbE,zck,zbZ,zbf,zbF,zbG,zaN,zbg,zaX,zcA,zaC,zcl,zau,zaY,zb0,zcm,zbh,zbi,zb1,zbH,zaD,zb2,zb3,zcn,zbj,zah,zav,zaw,zab,zax,zaE,zaZ,za0,za1,zai,zaj,zb4,zb5,zbk,zb6,zbI,zbJ,zco,zaF,zcR,za2,zaG,zan,za3,zaH,zay,zaO,zak,zaI,zaJ,zac,zaK,zaP,zbl,zb7,zdw,zdx,zcB,za4,zbm,zcS,zdy,zdz,zcC,zdA,zeN,zeO,zdB,zdC,zgD,zeP,zeQ,zgE,zeR,zeS,zgF,zgG,zgH,zgI,zgJ,zeT,zeU,zeV,zeW,zeX,zgK,zeY,zeZ,ze0,ze1,ze2,ze3,zgL,zgM,zgN,ze4,zdD,zgO,ze5,ze6,ze7,zgP,zgQ,zgR,zgS,ze8,zgT,ze9,zfa,zfb,zfc,zfd,zfe,zff,zdE,zcT,zcU,zcV,zcD,zcE,zfg,zfh,zfi,zfj,zfk,zgU,zfl,zfm,zfn,zgV,zgW,zgX,zgY,zgZ,zfo,zfp,zfq,zfr,zg0,zg1,zg2,zg3,zfs,zft,zg4,zfu,zfv,zfw,zfx,zfy,zdF,zfz,zfA,zfB,zfC,zfD,zg5,zfE,zg6,zg7,zg8,zg9,zha,zhb,zfF,zfG,zfH,zfI,zhc,zfJ,zfK,zfL,zfM,zfN,zb8,zcF,zcW,zcG,zfO,zcp,zcH,zcq,zcI,zaL,zcr,zcs,zao,zct,zcu,zcv,zcX,zcJ,zb9,zcw,zcx,zbn,zca,zbK,zdG,za5,zcY,zaQ,zbL,zcK,zcZ,zcb,zcc,zcL,zcy,za6,zcM,zcN,zc0,zcd,zap,zaR,zaS,zad,zaT,za7,F_FlowRun_go,if_true,if_false,zhh,zhi,cond_true,cond_false,List.zip,List.zipWith,List.length_cons,List.length_nil,Option.isSome_some,Bool.false_eq_true,reduceIte,reduceCtorEq,Nat.reduceEqDiff,Nat.reduceAdd,Nat.reduceLeDiff,Int.cast_ofNat_Int,decide_true,decide_false,Bool.and_true,Bool.true_and,Bool.and_false,Bool.false_and,Int.sub_zero,Int.reduceNeg,Nat.reduceLT,and_self,and_true,true_and,Bool.false_or,Bool.or_false,Bool.true_or,Bool.or_true,Bool.not_true,Bool.not_false,Int.natAbs_neg,Int.reduceSub,Int.reduceAdd,Int.reduceToNat,Int.natAbs_zero,Int.natAbs_one,Int.reduceLT,Int.reduceLE,Int.reduceGE,Int.reduceGT,decide_eq_true_eq,List.getElem?_cons_zero,List.getElem?_cons_succ,Nat.reduceSub,Int.reduceMul,Nat.reduceBEq,Nat.reducePow,Int.reducePow,and_false,false_and,eq_self,zc1,zcO _ _ zcB,IX,lim,F__law_worth1,F__law_draw1,sign_1,order_ok,cmp3_lt]
theorem settled_ok (i : Int) (h1 : -32768 ≤ i) (h2 : i < 32768) (H : MH) : (ev (PgC lf1 lg1) (n + 30) (d + 3)).c (.fn 104538767203525988) [.int i, .int 16, .int 9] H = some (.int i, H) := by
  rw [ec_fn, callF_ _ _ _ zbP rfl rfl]
  simp only [zdH,zdI,zdJ,zdK,zdL,zdM,zdN,zdO,zdP,zdQ,zc2,zdR,zdS,zdT,zdU,zc3,zdV,zdW,zdX,zdY,zc4,zfP,zfQ,zfR,zfS,zdZ,zd0,zd1,zd2,zd3,zd4,zd5,zd6,zc5,zc6,zd7,zd8,zd9,zea,zeb,zec,zed,zc7,zc8,zee,zhd,zhe,zc9,zda,zdb,zdc,zdd,zde,zfT,zfU,zfV,zef,zeg,zdf,zdg,zdh,zdi,zeh,zei,zfW,zfX,zfY,zdj,zdk,zdl,zdm,zdn,zfZ,zej,zdo,zek,zf0,zf1,zdp,zdq,zdr,zel,zem,zen,zeo,zds,zdt,zdu,zf2,zf3,zep,zf4,zeq,zf5,zf6,zf7,zf8,zf9,zga,zer,zgb,zgc,zgd,zes,zge,zet,zeu,zgf,zev,zgg,zgh,zgi,zew,zgj,zgk,zgl,zgm,zgn,zgo,zex,zgp,zey,zez,zeA,zeB,zeC,zeD,zdv,zeE,zhf,zgq,zeF,zgr,zeG,zgs,zgt,zgu,zgv,zgw,zgx,zeH,zeI,zeJ,zgy,zgz,zeK,zgA,zeL,zeM,zgB,zgC,zhg,za8,zbM,zce,zbN,zcP,zbo,zbO,zbp,zbP,zal,zbq,zbr,zae,zbs,zbt,zbu,zcf,zbQ,za9,zbv,zbw,zaM,zba,zaU,zcz,zaz,zcg,zaq,zaV,zbR,zch,zbb,zbc,zbS,zbx,zaA,zbT,zbU,zci,zbd,zaf,zar,zas,zaa,zat,zaB,zaW,zbe,zbV,zcj,zbW,zcQ,zby,zbX,zbz,zbY,zam,zbA,zbB,zag,zbC,zbD,zbE,zck,zbZ,zbf,zbF,zbG,zaN,zbg,zaX,zcA,zaC,zcl,zau,zaY,zb0,zcm,zbh,zbi,zb1,zbH,zaD,zb2,zb3,zcn,zbj,zah,zav,zaw,zab,zax,zaE,zaZ,za0,za1,zai,zaj,zb4,zb5,zbk,zb6,zbI,zbJ,zco,zaF,zcR,za2,zaG,zan,za3,zaH,zay,zaO,zak,zaI,zaJ,zac,zaK,zaP,zbl,zb7,zdw,zdx,zcB,za4,zbm,zcS,zdy,zdz,zcC,zdA,zeN,zeO,zdB,zdC,zgD,zeP,zeQ,zgE,zeR,zeS,zgF,zgG,zgH,zgI,zgJ,zeT,zeU,zeV,zeW,zeX,zgK,zeY,zeZ,ze0,ze1,ze2,ze3,zgL,zgM,zgN,ze4,zdD,zgO,ze5,ze6,ze7,zgP,zgQ,zgR,zgS,ze8,zgT,ze9,zfa,zfb,zfc,zfd,zfe,zff,zdE,zcT,zcU,zcV,zcD,zcE,zfg,zfh,zfi,zfj,zfk,zgU,zfl,zfm,zfn,zgV,zgW,zgX,zgY,zgZ,zfo,zfp,zfq,zfr,zg0,zg1,zg2,zg3,zfs,zft,zg4,zfu,zfv,zfw,zfx,zfy,zdF,zfz,zfA,zfB,zfC,zfD,zg5,zfE,zg6,zg7,zg8,zg9,zha,zhb,zfF,zfG,zfH,zfI,zhc,zfJ,zfK,zfL,zfM,zfN,zb8,zcF,zcW,zcG,zfO,zcp,zcH,zcq,zcI,zaL,zcr,zcs,zao,zct,zcu,zcv,zcX,zcJ,zb9,zcw,zcx,zbn,zca,zbK,zdG,za5,zcY,zaQ,zbL,zcK,zcZ,zcb,zcc,zcL,zcy,za6,zcM,zcN,zc0,zcd,zap,zaR,zaS,zad,zaT,za7,F_FlowRun_go,if_true,if_false,zhh,zhi,cond_true,cond_false,List.zip,List.zipWith,List.length_cons,List.length_nil,Option.isSome_some,Bool.false_eq_true,reduceIte,reduceCtorEq,Nat.reduceEqDiff,Nat.reduceAdd,Nat.reduceLeDiff,Int.cast_ofNat_Int,decide_true,decide_false,Bool.and_true,Bool.true_and,Bool.and_false,Bool.false_and,Int.sub_zero,Int.reduceNeg,Nat.reduceLT,and_self,and_true,true_and,Bool.false_or,Bool.or_false,Bool.true_or,Bool.or_true,Bool.not_true,Bool.not_false,Int.natAbs_neg,Int.reduceSub,Int.reduceAdd,Int.reduceToNat,Int.natAbs_zero,Int.natAbs_one,Int.reduceLT,Int.reduceLE,Int.reduceGE,Int.reduceGT,decide_eq_true_eq,List.getElem?_cons_zero,List.getElem?_cons_succ,Nat.reduceSub,Int.reduceMul,Nat.reduceBEq,Nat.reducePow,Int.reducePow,and_false,false_and,eq_self,zc1,zcO _ _ zcB,IX,lim,F__law_worth1,F__law_draw1,fun n d => fits_ok n d i h1 h2]
theorem wreck_ok (i j : Int) (h1 : -32768 ≤ i + j) (h2 : i + j < 32768) (H : MH) : (ev (PgC lf1 lg1) (n + 40) (d + 4)).c (.fn 7614177814149658286333369749759332) [.str 299, .int i, .int j, .int 16, .int 9] H = some (.int (i + j), H) := by
  rw [ec_fn, callF_ _ _ _ zal rfl rfl]
  simp only [zdH,zdI,zdJ,zdK,zdL,zdM,zdN,zdO,zdP,zdQ,zc2,zdR,zdS,zdT,zdU,zc3,zdV,zdW,zdX,zdY,zc4,zfP,zfQ,zfR,zfS,zdZ,zd0,zd1,zd2,zd3,zd4,zd5,zd6,zc5,zc6,zd7,zd8,zd9,zea,zeb,zec,zed,zc7,zc8,zee,zhd,zhe,zc9,zda,zdb,zdc,zdd,zde,zfT,zfU,zfV,zef,zeg,zdf,zdg,zdh,zdi,zeh,zei,zfW,zfX,zfY,zdj,zdk,zdl,zdm,zdn,zfZ,zej,zdo,zek,zf0,zf1,zdp,zdq,zdr,zel,zem,zen,zeo,zds,zdt,zdu,zf2,zf3,zep,zf4,zeq,zf5,zf6,zf7,zf8,zf9,zga,zer,zgb,zgc,zgd,zes,zge,zet,zeu,zgf,zev,zgg,zgh,zgi,zew,zgj,zgk,zgl,zgm,zgn,zgo,zex,zgp,zey,zez,zeA,zeB,zeC,zeD,zdv,zeE,zhf,zgq,zeF,zgr,zeG,zgs,zgt,zgu,zgv,zgw,zgx,zeH,zeI,zeJ,zgy,zgz,zeK,zgA,zeL,zeM,zgB,zgC,zhg,za8,zbM,zce,zbN,zcP,zbo,zbO,zbp,zbP,zal,zbq,zbr,zae,zbs,zbt,zbu,zcf,zbQ,za9,zbv,zbw,zaM,zba,zaU,zcz,zaz,zcg,zaq,zaV,zbR,zch,zbb,zbc,zbS,zbx,zaA,zbT,zbU,zci,zbd,zaf,zar,zas,zaa,zat,zaB,zaW,zbe,zbV,zcj,zbW,zcQ,zby,zbX,zbz,zbY,zam,zbA,zbB,zag,zbC,zbD,zbE,zck,zbZ,zbf,zbF,zbG,zaN,zbg,zaX,zcA,zaC,zcl,zau,zaY,zb0,zcm,zbh,zbi,zb1,zbH,zaD,zb2,zb3,zcn,zbj,zah,zav,zaw,zab,zax,zaE,zaZ,za0,za1,zai,zaj,zb4,zb5,zbk,zb6,zbI,zbJ,zco,zaF,zcR,za2,zaG,zan,za3,zaH,zay,zaO,zak,zaI,zaJ,zac,zaK,zaP,zbl,zb7,zdw,zdx,zcB,za4,zbm,zcS,zdy,zdz,zcC,zdA,zeN,zeO,zdB,zdC,zgD,zeP,zeQ,zgE,zeR,zeS,zgF,zgG,zgH,zgI,zgJ,zeT,zeU,zeV,zeW,zeX,zgK,zeY,zeZ,ze0,ze1,ze2,ze3,zgL,zgM,zgN,ze4,zdD,zgO,ze5,ze6,ze7,zgP,zgQ,zgR,zgS,ze8,zgT,ze9,zfa,zfb,zfc,zfd,zfe,zff,zdE,zcT,zcU,zcV,zcD,zcE,zfg,zfh,zfi,zfj,zfk,zgU,zfl,zfm,zfn,zgV,zgW,zgX,zgY,zgZ,zfo,zfp,zfq,zfr,zg0,zg1,zg2,zg3,zfs,zft,zg4,zfu,zfv,zfw,zfx,zfy,zdF,zfz,zfA,zfB,zfC,zfD,zg5,zfE,zg6,zg7,zg8,zg9,zha,zhb,zfF,zfG,zfH,zfI,zhc,zfJ,zfK,zfL,zfM,zfN,zb8,zcF,zcW,zcG,zfO,zcp,zcH,zcq,zcI,zaL,zcr,zcs,zao,zct,zcu,zcv,zcX,zcJ,zb9,zcw,zcx,zbn,zca,zbK,zdG,za5,zcY,zaQ,zbL,zcK,zcZ,zcb,zcc,zcL,zcy,za6,zcM,zcN,zc0,zcd,zap,zaR,zaS,zad,zaT,za7,F_FlowRun_go,if_true,if_false,zhh,zhi,cond_true,cond_false,List.zip,List.zipWith,List.length_cons,List.length_nil,Option.isSome_some,Bool.false_eq_true,reduceIte,reduceCtorEq,Nat.reduceEqDiff,Nat.reduceAdd,Nat.reduceLeDiff,Int.cast_ofNat_Int,decide_true,decide_false,Bool.and_true,Bool.true_and,Bool.and_false,Bool.false_and,Int.sub_zero,Int.reduceNeg,Nat.reduceLT,and_self,and_true,true_and,Bool.false_or,Bool.or_false,Bool.true_or,Bool.or_true,Bool.not_true,Bool.not_false,Int.natAbs_neg,Int.reduceSub,Int.reduceAdd,Int.reduceToNat,Int.natAbs_zero,Int.natAbs_one,Int.reduceLT,Int.reduceLE,Int.reduceGE,Int.reduceGT,decide_eq_true_eq,List.getElem?_cons_zero,List.getElem?_cons_succ,Nat.reduceSub,Int.reduceMul,Nat.reduceBEq,Nat.reducePow,Int.reducePow,and_false,false_and,eq_self,zc1,zcO _ _ zcB,IX,lim,F__law_worth1,F__law_draw1,fun n d => settled_ok n d (i + j) h1 h2]
theorem reck_ok (i j : Int) (h1 : -32768 ≤ i + j) (h2 : i + j < 32768) (H : MH) : (ev (PgC lf1 lg1) (n + 60) (d + 6)).c (.fn 26689848079763268964) [.str 299, .int i, .int j, .int 16, .int 9] H = some (.int (i + j), H) := by
  rw [ec_fn, callF_ _ _ _ zbq rfl rfl]
  simp only [zdH,zdI,zdJ,zdK,zdL,zdM,zdN,zdO,zdP,zdQ,zc2,zdR,zdS,zdT,zdU,zc3,zdV,zdW,zdX,zdY,zc4,zfP,zfQ,zfR,zfS,zdZ,zd0,zd1,zd2,zd3,zd4,zd5,zd6,zc5,zc6,zd7,zd8,zd9,zea,zeb,zec,zed,zc7,zc8,zee,zhd,zhe,zc9,zda,zdb,zdc,zdd,zde,zfT,zfU,zfV,zef,zeg,zdf,zdg,zdh,zdi,zeh,zei,zfW,zfX,zfY,zdj,zdk,zdl,zdm,zdn,zfZ,zej,zdo,zek,zf0,zf1,zdp,zdq,zdr,zel,zem,zen,zeo,zds,zdt,zdu,zf2,zf3,zep,zf4,zeq,zf5,zf6,zf7,zf8,zf9,zga,zer,zgb,zgc,zgd,zes,zge,zet,zeu,zgf,zev,zgg,zgh,zgi,zew,zgj,zgk,zgl,zgm,zgn,zgo,zex,zgp,zey,zez,zeA,zeB,zeC,zeD,zdv,zeE,zhf,zgq,zeF,zgr,zeG,zgs,zgt,zgu,zgv,zgw,zgx,zeH,zeI,zeJ,zgy,zgz,zeK,zgA,zeL,zeM,zgB,zgC,zhg,za8,zbM,zce,zbN,zcP,zbo,zbO,zbp,zbP,zal,zbq,zbr,zae,zbs,zbt,zbu,zcf,zbQ,za9,zbv,zbw,zaM,zba,zaU,zcz,zaz,zcg,zaq,zaV,zbR,zch,zbb,zbc,zbS,zbx,zaA,zbT,zbU,zci,zbd,zaf,zar,zas,zaa,zat,zaB,zaW,zbe,zbV,zcj,zbW,zcQ,zby,zbX,zbz,zbY,zam,zbA,zbB,zag,zbC,zbD,zbE,zck,zbZ,zbf,zbF,zbG,zaN,zbg,zaX,zcA,zaC,zcl,zau,zaY,zb0,zcm,zbh,zbi,zb1,zbH,zaD,zb2,zb3,zcn,zbj,zah,zav,zaw,zab,zax,zaE,zaZ,za0,za1,zai,zaj,zb4,zb5,zbk,zb6,zbI,zbJ,zco,zaF,zcR,za2,zaG,zan,za3,zaH,zay,zaO,zak,zaI,zaJ,zac,zaK,zaP,zbl,zb7,zdw,zdx,zcB,za4,zbm,zcS,zdy,zdz,zcC,zdA,zeN,zeO,zdB,zdC,zgD,zeP,zeQ,zgE,zeR,zeS,zgF,zgG,zgH,zgI,zgJ,zeT,zeU,zeV,zeW,zeX,zgK,zeY,zeZ,ze0,ze1,ze2,ze3,zgL,zgM,zgN,ze4,zdD,zgO,ze5,ze6,ze7,zgP,zgQ,zgR,zgS,ze8,zgT,ze9,zfa,zfb,zfc,zfd,zfe,zff,zdE,zcT,zcU,zcV,zcD,zcE,zfg,zfh,zfi,zfj,zfk,zgU,zfl,zfm,zfn,zgV,zgW,zgX,zgY,zgZ,zfo,zfp,zfq,zfr,zg0,zg1,zg2,zg3,zfs,zft,zg4,zfu,zfv,zfw,zfx,zfy,zdF,zfz,zfA,zfB,zfC,zfD,zg5,zfE,zg6,zg7,zg8,zg9,zha,zhb,zfF,zfG,zfH,zfI,zhc,zfJ,zfK,zfL,zfM,zfN,zb8,zcF,zcW,zcG,zfO,zcp,zcH,zcq,zcI,zaL,zcr,zcs,zao,zct,zcu,zcv,zcX,zcJ,zb9,zcw,zcx,zbn,zca,zbK,zdG,za5,zcY,zaQ,zbL,zcK,zcZ,zcb,zcc,zcL,zcy,za6,zcM,zcN,zc0,zcd,zap,zaR,zaS,zad,zaT,za7,F_FlowRun_go,if_true,if_false,zhh,zhi,cond_true,cond_false,List.zip,List.zipWith,List.length_cons,List.length_nil,Option.isSome_some,Bool.false_eq_true,reduceIte,reduceCtorEq,Nat.reduceEqDiff,Nat.reduceAdd,Nat.reduceLeDiff,Int.cast_ofNat_Int,decide_true,decide_false,Bool.and_true,Bool.true_and,Bool.and_false,Bool.false_and,Int.sub_zero,Int.reduceNeg,Nat.reduceLT,and_self,and_true,true_and,Bool.false_or,Bool.or_false,Bool.true_or,Bool.or_true,Bool.not_true,Bool.not_false,Int.natAbs_neg,Int.reduceSub,Int.reduceAdd,Int.reduceToNat,Int.natAbs_zero,Int.natAbs_one,Int.reduceLT,Int.reduceLE,Int.reduceGE,Int.reduceGT,decide_eq_true_eq,List.getElem?_cons_zero,List.getElem?_cons_succ,Nat.reduceSub,Int.reduceMul,Nat.reduceBEq,Nat.reducePow,Int.reducePow,and_false,false_and,eq_self,zc1,zcO _ _ zcB,IX,lim,F__law_worth1,F__law_draw1,isw_ok,fun n d => wreck_ok n d i j h1 h2]
end
inductive Pl where
  | e
  | f (l : Int)
  | fg (l : Int)
  | w
noncomputable def forV (l : Int) : MV := .tup [.str 21385042, .str 329, .int 1, .int l, .int 1]
noncomputable def pmv : Pl → List MV
  | .e => []
  | .f l => [forV l]
  | .fg l => [forV l, .tup [.str 1405785167170, .int 2]]
  | .w => [.tup [.str 1474386545733, .int 3]]
structure RS where
  x : Int
  i : Option Int
  pile : Pl
  notes : List MV
structure RA where
  r : Nat
  rd : Nat
  fl : Nat
  fd : Nat
  ra : Nat
  pa : Nat
  da : Nat
  qa : Nat
  la : Nat
  fa : Nat
  va : Nat
  co : Nat
  cd : Nat
  na : Nat
inductive Row where
  | let_ (k : Int)
  | rem (w : Nat)
  | end_
  | for_ (r : Int)
  | next (k : Nat)
  | sub
  | ret
  | whl (l : Int)
  | wend
  | ifn (p : Nat)
  | jump (p : Nat)
  | ong (k : Nat)
noncomputable def Row.mv : Row → MV
  | .let_ k => .tup [.str 21775700, .tup [.str 6146846053, .str 344], .tup [.str 6130987621, .int k]]
  | .rem w => .tup [.str 22168909, .str w]
  | .end_ => .tup [.str 21319236]
  | .for_ r => .tup [.str 21385042, .str 329, .tup [.str 24339828, .int 1], .tup [.str 24339828, .int r], .none]
  | .next k => .tup [.str 5608134740, .ref k]
  | .sub => .tup [.str 1405785167170, .int 40]
  | .ret => .tup [.str 371932697809486, .none]
  | .whl l => .tup [.str 1474386545733, .tup [.str 1522120028023, .int l]]
  | .wend => .tup [.str 5759127108]
  | .ifn p => .tup [.str 1414223777620, .tup [.str 24077412], .int p]
  | .jump p => .tup [.str 5542071632, .int p]
  | .ong k => .tup [.str 5625497423, .str 5491348559, .tup [.str 6146846053, .str 329], .ref k]
noncomputable def Row.ok (G : Nat → Option MO) : Row → Prop
  | .next k => G k = some (.list [.str 329])
  | .ong k => G k = some (.list [.int 60, .int 50, .int 60])
  | .for_ r => 1 ≤ r ∧ r < 100
  | _ => True
structure Fl where
  rows : List (Int × Row)
noncomputable def plD : List (MV × MV) := [(.int 10, .int 0), (.int 20, .int 3), (.int 30, .int 7), (.int 40, .int 13), (.int 50, .int 16), (.int 60, .int 18)]
noncomputable def qaD : List (MV × MV) := [(.int 3, .int 6), (.int 6, .int 3)]
noncomputable def Fl.mv (F : Fl) : List MV := F.rows.map fun p => .tup [.int p.1, p.2.mv]
noncomputable def runD (A : RA) : MO := .dict [(.str 6013346164, .ref A.fl), (.str 411635780248947, .ref A.va), (.str 27052967330930716518, .fn 1659549907034316584678504), (.str 5946045555, .int 16), (.str 391878846018675, .int 9), (.str 100046136923025260, .ref A.co), (.str 1573827929459, .ref A.na)]
noncomputable def flatD (A : RA) : MO := .dict [(.str 6214874995, .ref A.ra), (.str 405085769393523, .ref A.pa), (.str 5979075681, .ref A.da), (.str 1582182265459, .ref A.qa), (.str 1565237670003, .ref A.la), (.str 23490163, .ref A.fa)]
noncomputable def ctl (p : Nat) : MO := .dict [(.str 6180924517, .ref p), (.str 6130987892, .int 20), (.str 6610953639064984576372, .int (-1))]
noncomputable def valE (x : Int) : Option Int → List (MV × MV)
  | none => [(.str 344, .int x)]
  | some i => [(.str 344, .int x), (.str 329, .int i)]
noncomputable def valD (x : Int) (i : Option Int) : MO := .dict (valE x i)
noncomputable abbrev Fz := Nat → Option MO
structure RFix (G : Fz) (A : RA) (F : Fl) : Prop where
  r : G A.r = some (.inst 91880068406736238 A.rd)
  rd : G A.rd = some (runD A)
  co : G A.co = some (.inst 91038937668284268 A.cd)
  fl : G A.fl = some (.inst 5476475252 A.fd)
  fd : G A.fd = some (flatD A)
  ra : G A.ra = some (.list F.mv)
  pa : G A.pa = some (.dict plD)
  qa : G A.qa = some (.dict qaD)
  ok : ∀ p ∈ F.rows, p.2.ok G
  len : F.rows.length < 1000
noncomputable def Sub (G : Fz) (H : MH) : Prop := ∀ k o, G k = some o → H.get k = some o
structure St (G : Fz) (A : RA) (p : Nat) (s : RS) (H : MH) : Prop where
  ext : Sub G H
  gnew : ∀ k, H.next ≤ k → G k = none
  va : H.get A.va = some (valD s.x s.i)
  na : H.get A.na = some (.list s.notes)
  cd : H.get A.cd = some (ctl p)
  pi : H.get p = some (.list (pmv s.pile))
  gva : G A.va = none
  gna : G A.na = none
  gcd : G A.cd = none
  gp : G p = none
  n2 : A.na ≠ p
  hi : ∀ i, s.i = some i → 0 ≤ i ∧ i < 100
  ln : s.notes.length < 1000
  bva : A.va < H.next
  bna : A.na < H.next
  bcd : A.cd < H.next
  bp : p < H.next
noncomputable def Sx (G : Fz) (A : RA) (s : RS) (H : MH) : Prop := ∃ p, St G A p s H
theorem upd_eq (H : MH) (k : Nat) (o : MO) : (H.upd k o).get k = some o := if_pos rfl
theorem upd_ne (H : MH) (k j : Nat) (o : MO) (h : j ≠ k) : (H.upd k o).get j = H.get j := if_neg h
theorem new_eq (H : MH) (o : MO) : (H.new o).get H.next = some o := if_pos rfl
theorem new_ne (H : MH) (o : MO) (k : Nat) (h : k ≠ H.next) : (H.new o).get k = H.get k := if_neg h
section
variable {G : Fz} {A : RA} {F : Fl} {p : Nat} {s : RS} {H : MH}
theorem ne_of_get {H : MH} {a b : Nat} {u v : MO} (h1 : H.get a = some u) (h2 : H.get b = some v) (h : u ≠ v) : a ≠ b := by
  rintro rfl
  rw [h1] at h2
  exact h (Option.some.inj h2)
theorem gne {G : Fz} {a b : Nat} {u : MO} (h1 : G a = some u) (h2 : G b = none) : a ≠ b := by
  rintro rfl
  rw [h1] at h2
  cases h2
theorem St.ltG (h : St G A p s H) {k : Nat} {o : MO} (e : G k = some o) : k < H.next := by
  rcases Nat.lt_or_ge k H.next with q | q
  · exact q
  · rw [h.gnew _ q] at e; cases e
theorem Sub.upd (h : Sub G H) {k : Nat} (o : MO) (hk : G k = none) : Sub G (H.upd k o) := fun j u e => by
  rw [upd_ne _ _ _ _ (gne e hk)]
  exact h _ _ e
theorem St.store (h : St G A p s H) (x : Int) (i : Option Int) (hx : ∀ j, i = some j → 0 ≤ j ∧ j < 100) : St G A p { s with x := x, i := i } (H.upd A.va (valD x i)) := by
  have a1 : A.na ≠ A.va := ne_of_get h.na h.va nofun
  have a2 : p ≠ A.va := ne_of_get h.pi h.va nofun
  have a3 : A.cd ≠ A.va := ne_of_get h.cd h.va fun q => by
    unfold ctl valD valE at q
    cases hh : s.i <;> rw [hh] at q <;> cases q
  exact ⟨h.ext.upd _ h.gva, h.gnew, upd_eq _ _ _, (upd_ne _ _ _ _ a1).trans h.na, (upd_ne _ _ _ _ a3).trans h.cd, (upd_ne _ _ _ _ a2).trans h.pi, h.gva, h.gna, h.gcd, h.gp, h.n2, hx, h.ln, h.bva, h.bna, h.bcd, h.bp⟩
theorem St.note (h : St G A p s H) (v : MV) (hl : s.notes.length + 1 < 1000) : St G A p { s with notes := s.notes ++ [v] } (H.upd A.na (.list (s.notes ++ [v]))) := by
  have a1 : A.va ≠ A.na := ne_of_get h.va h.na nofun
  have a2 : A.cd ≠ A.na := ne_of_get h.cd h.na nofun
  exact ⟨h.ext.upd _ h.gna, h.gnew, (upd_ne _ _ _ _ a1).trans h.va, upd_eq _ _ _, (upd_ne _ _ _ _ a2).trans h.cd, (upd_ne _ _ _ _ h.n2.symm).trans h.pi, h.gva, h.gna, h.gcd, h.gp, h.n2, h.hi, by rw [List.length_append]; exact hl, h.bva, h.bna, h.bcd, h.bp⟩
theorem St.push (h : St G A p s H) (q : Pl) : St G A p { s with pile := q } (H.upd p (.list (pmv q))) := by
  have a1 : A.va ≠ p := ne_of_get h.va h.pi nofun
  have a2 : A.cd ≠ p := ne_of_get h.cd h.pi nofun
  exact ⟨h.ext.upd _ h.gp, h.gnew, (upd_ne _ _ _ _ a1).trans h.va, (upd_ne _ _ _ _ h.n2).trans h.na, (upd_ne _ _ _ _ a2).trans h.cd, upd_eq _ _ _, h.gva, h.gna, h.gcd, h.gp, h.n2, h.hi, h.ln, h.bva, h.bna, h.bcd, h.bp⟩
theorem St.grow (h : St G A p s H) (o : MO) : St G A p s (H.new o) := by
  have b1 := h.bva
  have b2 := h.bna
  have b3 := h.bcd
  have b4 := h.bp
  exact ⟨fun j u e => (new_ne _ _ _ (Nat.ne_of_lt (h.ltG e))).trans (h.ext _ _ e), fun k hk => h.gnew k (Nat.le_of_succ_le hk), (new_ne _ _ _ (Nat.ne_of_lt b1)).trans h.va, (new_ne _ _ _ (Nat.ne_of_lt b2)).trans h.na, (new_ne _ _ _ (Nat.ne_of_lt b3)).trans h.cd, (new_ne _ _ _ (Nat.ne_of_lt b4)).trans h.pi, h.gva, h.gna, h.gcd, h.gp, h.n2, h.hi, h.ln, Nat.lt_succ_of_lt b1, Nat.lt_succ_of_lt b2, Nat.lt_succ_of_lt b3, Nat.lt_succ_of_lt b4⟩
theorem St.cut (h : St G A p s H) (q : Pl) : St G A H.next { s with pile := q } ((H.new (.list (pmv q))).upd A.cd (ctl H.next)) := by
  have a1 : A.na ≠ A.cd := ne_of_get h.na h.cd nofun
  have a3 : A.va ≠ A.cd := ne_of_get h.va h.cd fun q => by
    unfold ctl valD valE at q
    cases hh : s.i <;> rw [hh] at q <;> cases q
  have b1 := h.bva
  have b2 := h.bna
  have b3 := h.bcd
  refine ⟨fun j u e => ?_, fun k hk => h.gnew k (Nat.le_of_succ_le hk), ?_, ?_, upd_eq _ _ _, ?_, h.gva, h.gna, h.gcd, h.gnew _ (Nat.le_refl _), Nat.ne_of_lt b2, h.hi, h.ln, Nat.lt_succ_of_lt b1, Nat.lt_succ_of_lt b2, Nat.lt_succ_of_lt b3, Nat.lt_succ_self _⟩
  · rw [upd_ne _ _ _ _ (gne e h.gcd), new_ne _ _ _ (Nat.ne_of_lt (h.ltG e))]; exact h.ext _ _ e
  · rw [upd_ne _ _ _ _ a3, new_ne _ _ _ (Nat.ne_of_lt b1)]; exact h.va
  · rw [upd_ne _ _ _ _ a1, new_ne _ _ _ (Nat.ne_of_lt b2)]; exact h.na
  · rw [upd_ne _ _ _ _ (Nat.ne_of_gt b3), new_eq]
end
structure At (A : RA) (F : Fl) (s : RS) (p : Nat) (H : MH) : Prop where
  flat : attr (PgC lf1 lg1) H (.ref A.r) 6013346164 = some (.ref A.fl)
  values : attr (PgC lf1 lg1) H (.ref A.r) 411635780248947 = some (.ref A.va)
  worth : attr (PgC lf1 lg1) H (.ref A.r) 27052967330930716518 = some (.fn 1659549907034316584678504)
  bits : attr (PgC lf1 lg1) H (.ref A.r) 5946045555 = some (.int 16)
  digits : attr (PgC lf1 lg1) H (.ref A.r) 391878846018675 = some (.int 9)
  plus : attr (PgC lf1 lg1) H (.ref A.r) 6181123443 = some (.bm A.r 196254634976314992399582029673955626514985301736485678804054381246074043110747630893076508655744927424386047964531)
  control : attr (PgC lf1 lg1) H (.ref A.r) 100046136923025260 = some (.ref A.co)
  notes : attr (PgC lf1 lg1) H (.ref A.r) 1573827929459 = some (.ref A.na)
  pile : attr (PgC lf1 lg1) H (.ref A.co) 6180924517 = some (.ref p)
  most : attr (PgC lf1 lg1) H (.ref A.co) 6130987892 = some (.int 20)
  rows : attr (PgC lf1 lg1) H (.ref A.fl) 6214874995 = some (.ref A.ra)
  places : attr (PgC lf1 lg1) H (.ref A.fl) 405085769393523 = some (.ref A.pa)
  pairs : attr (PgC lf1 lg1) H (.ref A.fl) 1582182265459 = some (.ref A.qa)
  mw : ∀ (n d : Nat) (as : List MX) (L : Loc), kme (PgC lf1 lg1) n d 1612482507880 as L (.ref A.r, H) = (evs (ev (PgC lf1 lg1) n d) as L H).bind (kfn (PgC lf1 lg1) n d 196254634976314992399582029673955626514985301736485678804054381246074043110747630893076508655744927425992349348968 A.r)
  mh : ∀ (n d : Nat) (as : List MX) (L : Loc), kme (PgC lf1 lg1) n d 1612364868709 as L (.ref A.r, H) = (evs (ev (PgC lf1 lg1) n d) as L H).bind (kfn (PgC lf1 lg1) n d 196254634976314992399582029673955626514985301736485678804054381246074043110747630893076508655744927425992231709797 A.r)
  mv : ∀ (n d : Nat) (as : List MX) (L : Loc), kme (PgC lf1 lg1) n d 29661483944662927586511842012517 as L (.ref A.r, H) = (evs (ev (PgC lf1 lg1) n d) as L H).bind (kfn (PgC lf1 lg1) n d 196254634976314992399582029673955626514985301736485678804054381246074043110747630922737992600407855010891708853605 A.r)
  ms : ∀ (n d : Nat) (as : List MX) (L : Loc), kme (PgC lf1 lg1) n d 1595386327653 as L (.ref A.r, H) = (evs (ev (PgC lf1 lg1) n d) as L H).bind (kfn (PgC lf1 lg1) n d 196254634976314992399582029673955626514985301736485678804054381246074043110747630893076508655744927425975253168741 A.r)
  mg : ∀ (n d : Nat) (as : List MX) (L : Loc), kme (PgC lf1 lg1) n d 92015 as L (.ref A.r, H) = (evs (ev (PgC lf1 lg1) n d) as L H).bind (kfn (PgC lf1 lg1) n d 196254634976314992399582029673955626514985301736485678804054381246074043110747630893076508655744927424379866933103 A.r)
  mp : ∀ (n d : Nat) (as : List MX) (L : Loc), kme (PgC lf1 lg1) n d 388610526637668 as L (.ref p, H) = (evs (ev (PgC lf1 lg1) n d) as L H).bind (kml p 388610526637668)
  mn : ∀ (n d : Nat) (as : List MX) (L : Loc), kme (PgC lf1 lg1) n d 388610526637668 as L (.ref A.na, H) = (evs (ev (PgC lf1 lg1) n d) as L H).bind (kml A.na 388610526637668)
  md : ∀ (n d : Nat) (as : List MX) (L : Loc), kme (PgC lf1 lg1) n d 23553396 as L (.ref A.va, H) = (evs (ev (PgC lf1 lg1) n d) as L H).bind (kmd A.va 23553396)
  pi : H.get p = some (.list (pmv s.pile))
  na : H.get A.na = some (.list s.notes)
  va : H.get A.va = some (.dict (valE s.x s.i))
  ra : H.get A.ra = some (.list F.mv)
  pa : H.get A.pa = some (.dict plD)
  qa : H.get A.qa = some (.dict qaD)
theorem instA {H : MH} {k d c : Nat} {es : List (MV × MV)} (h1 : H.get k = some (.inst c d)) (h2 : H.get d = some (.dict es)) : instAt H (.ref k) = some (c, d, es) := by
  show (H.get k).bind _ = _
  rw [h1]
  show (H.get d).bind _ = _
  rw [h2]
  rfl
theorem atI {H : MH} {P : Pg} {k d c x : Nat} {es : List (MV × MV)} {v : MV} (h1 : H.get k = some (.inst c d)) (h2 : H.get d = some (.dict es)) (h3 : okKey (.str x) es = true) (h4 : P.atr c x = true) (h5 : dGet (.str x) es = some v) (h6 : noBi v = true) : attr P H (.ref k) x = some v := by
  unfold attr
  rw [instA h1 h2]
  show katt P k x (c, d, es) = _
  rw [katt, if_pos h3, if_pos h4, h5]
  exact if_pos h6
theorem atM {H : MH} {P : Pg} {k d c x f : Nat} {es : List (MV × MV)} (h1 : H.get k = some (.inst c d)) (h2 : H.get d = some (.dict es)) (h3 : okKey (.str x) es = true) (h4 : P.atr c x = false) (h5 : dGet (.str x) es = none) (h6 : P.meth c x = some f) : attr P H (.ref k) x = some (.bm k f) := by
  unfold attr
  rw [instA h1 h2]
  show katt P k x (c, d, es) = _
  rw [katt, if_pos h3, if_neg (by rw [h4]; exact Bool.false_ne_true), if_pos h5, h6]
  rfl
theorem meI {H : MH} {P : Pg} {n k d c x f e : Nat} {es : List (MV × MV)} {as : List MX} {L : Loc} (h1 : H.get k = some (.inst c e)) (h2 : H.get e = some (.dict es)) (h3 : okKey (.str x) es = true) (h5 : dGet (.str x) es = none) (h6 : P.meth c x = some f) (h7 : (P.fns f).isSome = true) : kme P n d x as L (.ref k, H) = (evs (ev P n d) as L H).bind (kfn P n d f k) := by
  show (H.get k).bind _ = _
  rw [h1]
  show (Option.bind ((H.get e).bind _) _) = _
  rw [h2]
  show (if okKey (.str x) es = true ∧ dGet (.str x) es = none then (P.meth c x).bind (kmm P n d as L k H) else none) = _
  rw [if_pos ⟨h3, h5⟩, h6]
  exact if_pos h7
theorem meL {H : MH} {P : Pg} {n k d x : Nat} {vs : List MV} {as : List MX} {L : Loc} (h1 : H.get k = some (.list vs)) : kme P n d x as L (.ref k, H) = (evs (ev P n d) as L H).bind (kml k x) := by
  show (H.get k).bind _ = _
  rw [h1]
  rfl
theorem meD {H : MH} {P : Pg} {n k d x : Nat} {vs : List (MV × MV)} {as : List MX} {L : Loc} (h1 : H.get k = some (.dict vs)) : kme P n d x as L (.ref k, H) = (evs (ev P n d) as L H).bind (kmd k x) := by
  show (H.get k).bind _ = _
  rw [h1]
  rfl
theorem St.at {G : Fz} {A : RA} {F : Fl} {p : Nat} {s : RS} {H : MH} (h : St G A p s H) (f : RFix G A F) : At A F s p H := by
  have r := h.ext _ _ f.r
  have rd := h.ext _ _ f.rd
  have co := h.ext _ _ f.co
  have fl := h.ext _ _ f.fl
  have fd := h.ext _ _ f.fd
  exact ⟨atI r rd rfl rfl rfl rfl, atI r rd rfl rfl rfl rfl, atI r rd rfl rfl rfl rfl, atI r rd rfl rfl rfl rfl, atI r rd rfl rfl rfl rfl, atM r rd rfl rfl rfl rfl, atI r rd rfl rfl rfl rfl, atI r rd rfl rfl rfl rfl,
    atI co h.cd rfl rfl rfl rfl, atI co h.cd rfl rfl rfl rfl, atI fl fd rfl rfl rfl rfl, atI fl fd rfl rfl rfl rfl, atI fl fd rfl rfl rfl rfl,
    fun _ _ _ _ => meI r rd rfl rfl rfl rfl, fun _ _ _ _ => meI r rd rfl rfl rfl rfl, fun _ _ _ _ => meI r rd rfl rfl rfl rfl, fun _ _ _ _ => meI r rd rfl rfl rfl rfl, fun _ _ _ _ => meI r rd rfl rfl rfl rfl,
    fun _ _ _ _ => meL h.pi, fun _ _ _ _ => meL h.na, fun _ _ _ _ => meD h.va, h.pi, h.na, h.va, h.ext _ _ f.ra, h.ext _ _ f.pa, h.ext _ _ f.qa⟩
end Mn.Mg
end
section
set_option maxRecDepth 100000
namespace Mn.Mg
noncomputable def nt (w : Nat) (y : Int) : MV := .tup [.str w, .int y]
theorem vX (x : Int) (i : Option Int) : dGet (.str 344) (valE x i) = some (.int x) := by cases i <;> rfl
theorem vI (x i : Int) : dGet (.str 329) (valE x (some i)) = some (.int i) := rfl
theorem vK (k : Nat) (x : Int) (i : Option Int) : okKey (.str k) (valE x i) = true := by cases i <;> rfl
theorem pX (v x : Int) (i : Option Int) : dPut (.str 344) (.int v) (valE x i) = valE v i := by cases i <;> rfl
theorem pI (v x : Int) (i : Option Int) : dPut (.str 329) (.int v) (valE x i) = valE x (some v) := by cases i <;> rfl
theorem vL (x : Int) (i : Option Int) : (valE x i).length < 1048576 := Nat.lt_of_le_of_lt (m := 2) (by cases i <;> exact Nat.le_of_ble_eq_true rfl) (by decide)
theorem pmv_len (q : Pl) : (pmv q).length ≤ 1048576 := Nat.le_trans (m := 2) (by cases q <;> exact Nat.le_of_ble_eq_true rfl) (by decide)
section
variable {G : Fz} {A : RA} {F : Fl} {p : Nat} {s : RS} {H : MH} {x : Int} {i : Option Int} {va : Nat}
theorem w_set (k : Int) : ∀ n d : Nat, (ev (PgC lf1 lg1) (n + 60) (d + 5)).c (.fn 1659549907034316584678504) [.tup [.str 24339828, .int k], .ref va] H = some (.int k, H) := by
  intro n d
  rw [ec_fn, callF_ _ _ _ f1_F__law_worth rfl rfl]
  simp only [zdH,zdI,zdJ,zdK,zdL,zdM,zdN,zdO,zdP,zdQ,zc2,zdR,zdS,zdT,zdU,zc3,zdV,zdW,zdX,zdY,zc4,zfP,zfQ,zfR,zfS,zdZ,zd0,zd1,zd2,zd3,zd4,zd5,zd6,zc5,zc6,zd7,zd8,zd9,zea,zeb,zec,zed,zc7,zc8,zee,zhd,zhe,zc9,zda,zdb,zdc,zdd,zde,zfT,zfU,zfV,zef,zeg,zdf,zdg,zdh,zdi,zeh,zei,zfW,zfX,zfY,zdj,zdk,zdl,zdm,zdn,zfZ,zej,zdo,zek,zf0,zf1,zdp,zdq,zdr,zel,zem,zen,zeo,zds,zdt,zdu,zf2,zf3,zep,zf4,zeq,zf5,zf6,zf7,zf8,zf9,zga,zer,zgb,zgc,zgd,zes,zge,zet,zeu,zgf,zev,zgg,zgh,zgi,zew,zgj,zgk,zgl,zgm,zgn,zgo,zex,zgp,zey,zez,zeA,zeB,zeC,zeD,zdv,zeE,zhf,zgq,zeF,zgr,zeG,zgs,zgt,zgu,zgv,zgw,zgx,zeH,zeI,zeJ,zgy,zgz,zeK,zgA,zeL,zeM,zgB,zgC,zhg,za8,zbM,zce,zbN,zcP,zbo,zbO,zbp,zbP,zal,zbq,zbr,zae,zbs,zbt,zbu,zcf,zbQ,za9,zbv,zbw,zaM,zba,zaU,zcz,zaz,zcg,zaq,zaV,zbR,zch,zbb,zbc,zbS,zbx,zaA,zbT,zbU,zci,zbd,zaf,zar,zas,zaa,zat,zaB,zaW,zbe,zbV,zcj,zbW,zcQ,zby,zbX,zbz,zbY,zam,zbA,zbB,zag,zbC,zbD,zbE,zck,zbZ,zbf,zbF,zbG,zaN,zbg,zaX,zcA,zaC,zcl,zau,zaY,zb0,zcm,zbh,zbi,zb1,zbH,zaD,zb2,zb3,zcn,zbj,zah,zav,zaw,zab,zax,zaE,zaZ,za0,za1,zai,zaj,zb4,zb5,zbk,zb6,zbI,zbJ,zco,zaF,zcR,za2,zaG,zan,za3,zaH,zay,zaO,zak,zaI,zaJ,zac,zaK,zaP,zbl,zb7,zdw,zdx,zcB,za4,zbm,zcS,zdy,zdz,zcC,zdA,zeN,zeO,zdB,zdC,zgD,zeP,zeQ,zgE,zeR,zeS,zgF,zgG,zgH,zgI,zgJ,zeT,zeU,zeV,zeW,zeX,zgK,zeY,zeZ,ze0,ze1,ze2,ze3,zgL,zgM,zgN,ze4,zdD,zgO,ze5,ze6,ze7,zgP,zgQ,zgR,zgS,ze8,zgT,ze9,zfa,zfb,zfc,zfd,zfe,zff,zdE,zcT,zcU,zcV,zcD,zcE,zfg,zfh,zfi,zfj,zfk,zgU,zfl,zfm,zfn,zgV,zgW,zgX,zgY,zgZ,zfo,zfp,zfq,zfr,zg0,zg1,zg2,zg3,zfs,zft,zg4,zfu,zfv,zfw,zfx,zfy,zdF,zfz,zfA,zfB,zfC,zfD,zg5,zfE,zg6,zg7,zg8,zg9,zha,zhb,zfF,zfG,zfH,zfI,zhc,zfJ,zfK,zfL,zfM,zfN,zb8,zcF,zcW,zcG,zfO,zcp,zcH,zcq,zcI,zaL,zcr,zcs,zao,zct,zcu,zcv,zcX,zcJ,zb9,zcw,zcx,zbn,zca,zbK,zdG,za5,zcY,zaQ,zbL,zcK,zcZ,zcb,zcc,zcL,zcy,za6,zcM,zcN,zc0,zcd,zap,zaR,zaS,zad,zaT,za7,F_FlowRun_go,if_true,if_false,zhh,zhi,cond_true,cond_false,List.zip,List.zipWith,List.length_cons,List.length_nil,Option.isSome_some,Bool.false_eq_true,reduceIte,reduceCtorEq,Nat.reduceEqDiff,Nat.reduceAdd,Nat.reduceLeDiff,Int.cast_ofNat_Int,decide_true,decide_false,Bool.and_true,Bool.true_and,Bool.and_false,Bool.false_and,Int.sub_zero,Int.reduceNeg,Nat.reduceLT,and_self,and_true,true_and,Bool.false_or,Bool.or_false,Bool.true_or,Bool.or_true,Bool.not_true,Bool.not_false,Int.natAbs_neg,Int.reduceSub,Int.reduceAdd,Int.reduceToNat,Int.natAbs_zero,Int.natAbs_one,Int.reduceLT,Int.reduceLE,Int.reduceGE,Int.reduceGT,decide_eq_true_eq,List.getElem?_cons_zero,List.getElem?_cons_succ,Nat.reduceSub,Int.reduceMul,Nat.reduceBEq,Nat.reducePow,Int.reducePow,and_false,false_and,eq_self,zc1,zcO _ _ zcB,IX,lim,F__law_worth1]
theorem w_I {j : Int} (h : H.get va = some (.dict (valE x (some j)))) : ∀ n d : Nat, (ev (PgC lf1 lg1) (n + 60) (d + 5)).c (.fn 1659549907034316584678504) [.tup [.str 6146846053, .str 329], .ref va] H = some (.int j, H) := by
  intro n d
  rw [ec_fn, callF_ _ _ _ f1_F__law_worth rfl rfl]
  simp only [zdH,zdI,zdJ,zdK,zdL,zdM,zdN,zdO,zdP,zdQ,zc2,zdR,zdS,zdT,zdU,zc3,zdV,zdW,zdX,zdY,zc4,zfP,zfQ,zfR,zfS,zdZ,zd0,zd1,zd2,zd3,zd4,zd5,zd6,zc5,zc6,zd7,zd8,zd9,zea,zeb,zec,zed,zc7,zc8,zee,zhd,zhe,zc9,zda,zdb,zdc,zdd,zde,zfT,zfU,zfV,zef,zeg,zdf,zdg,zdh,zdi,zeh,zei,zfW,zfX,zfY,zdj,zdk,zdl,zdm,zdn,zfZ,zej,zdo,zek,zf0,zf1,zdp,zdq,zdr,zel,zem,zen,zeo,zds,zdt,zdu,zf2,zf3,zep,zf4,zeq,zf5,zf6,zf7,zf8,zf9,zga,zer,zgb,zgc,zgd,zes,zge,zet,zeu,zgf,zev,zgg,zgh,zgi,zew,zgj,zgk,zgl,zgm,zgn,zgo,zex,zgp,zey,zez,zeA,zeB,zeC,zeD,zdv,zeE,zhf,zgq,zeF,zgr,zeG,zgs,zgt,zgu,zgv,zgw,zgx,zeH,zeI,zeJ,zgy,zgz,zeK,zgA,zeL,zeM,zgB,zgC,zhg,za8,zbM,zce,zbN,zcP,zbo,zbO,zbp,zbP,zal,zbq,zbr,zae,zbs,zbt,zbu,zcf,zbQ,za9,zbv,zbw,zaM,zba,zaU,zcz,zaz,zcg,zaq,zaV,zbR,zch,zbb,zbc,zbS,zbx,zaA,zbT,zbU,zci,zbd,zaf,zar,zas,zaa,zat,zaB,zaW,zbe,zbV,zcj,zbW,zcQ,zby,zbX,zbz,zbY,zam,zbA,zbB,zag,zbC,zbD,zbE,zck,zbZ,zbf,zbF,zbG,zaN,zbg,zaX,zcA,zaC,zcl,zau,zaY,zb0,zcm,zbh,zbi,zb1,zbH,zaD,zb2,zb3,zcn,zbj,zah,zav,zaw,zab,zax,zaE,zaZ,za0,za1,zai,zaj,zb4,zb5,zbk,zb6,zbI,zbJ,zco,zaF,zcR,za2,zaG,zan,za3,zaH,zay,zaO,zak,zaI,zaJ,zac,zaK,zaP,zbl,zb7,zdw,zdx,zcB,za4,zbm,zcS,zdy,zdz,zcC,zdA,zeN,zeO,zdB,zdC,zgD,zeP,zeQ,zgE,zeR,zeS,zgF,zgG,zgH,zgI,zgJ,zeT,zeU,zeV,zeW,zeX,zgK,zeY,zeZ,ze0,ze1,ze2,ze3,zgL,zgM,zgN,ze4,zdD,zgO,ze5,ze6,ze7,zgP,zgQ,zgR,zgS,ze8,zgT,ze9,zfa,zfb,zfc,zfd,zfe,zff,zdE,zcT,zcU,zcV,zcD,zcE,zfg,zfh,zfi,zfj,zfk,zgU,zfl,zfm,zfn,zgV,zgW,zgX,zgY,zgZ,zfo,zfp,zfq,zfr,zg0,zg1,zg2,zg3,zfs,zft,zg4,zfu,zfv,zfw,zfx,zfy,zdF,zfz,zfA,zfB,zfC,zfD,zg5,zfE,zg6,zg7,zg8,zg9,zha,zhb,zfF,zfG,zfH,zfI,zhc,zfJ,zfK,zfL,zfM,zfN,zb8,zcF,zcW,zcG,zfO,zcp,zcH,zcq,zcI,zaL,zcr,zcs,zao,zct,zcu,zcv,zcX,zcJ,zb9,zcw,zcx,zbn,zca,zbK,zdG,za5,zcY,zaQ,zbL,zcK,zcZ,zcb,zcc,zcL,zcy,za6,zcM,zcN,zc0,zcd,zap,zaR,zaS,zad,zaT,za7,F_FlowRun_go,if_true,if_false,zhh,zhi,cond_true,cond_false,List.zip,List.zipWith,List.length_cons,List.length_nil,Option.isSome_some,Bool.false_eq_true,reduceIte,reduceCtorEq,Nat.reduceEqDiff,Nat.reduceAdd,Nat.reduceLeDiff,Int.cast_ofNat_Int,decide_true,decide_false,Bool.and_true,Bool.true_and,Bool.and_false,Bool.false_and,Int.sub_zero,Int.reduceNeg,Nat.reduceLT,and_self,and_true,true_and,Bool.false_or,Bool.or_false,Bool.true_or,Bool.or_true,Bool.not_true,Bool.not_false,Int.natAbs_neg,Int.reduceSub,Int.reduceAdd,Int.reduceToNat,Int.natAbs_zero,Int.natAbs_one,Int.reduceLT,Int.reduceLE,Int.reduceGE,Int.reduceGT,decide_eq_true_eq,List.getElem?_cons_zero,List.getElem?_cons_succ,Nat.reduceSub,Int.reduceMul,Nat.reduceBEq,Nat.reducePow,Int.reducePow,and_false,false_and,eq_self,zc1,zcO _ _ zcB,IX,lim,F__law_worth1,h,vK,vI]
theorem w_more (k : Int) (h : H.get va = some (.dict (valE x i))) : ∀ n d : Nat, (ev (PgC lf1 lg1) (n + 60) (d + 5)).c (.fn 1659549907034316584678504) [.tup [.str 6130987621, .int k], .ref va] H = some (.int (x + k), H) := by
  intro n d
  rw [ec_fn, callF_ _ _ _ f1_F__law_worth rfl rfl]
  simp only [zdH,zdI,zdJ,zdK,zdL,zdM,zdN,zdO,zdP,zdQ,zc2,zdR,zdS,zdT,zdU,zc3,zdV,zdW,zdX,zdY,zc4,zfP,zfQ,zfR,zfS,zdZ,zd0,zd1,zd2,zd3,zd4,zd5,zd6,zc5,zc6,zd7,zd8,zd9,zea,zeb,zec,zed,zc7,zc8,zee,zhd,zhe,zc9,zda,zdb,zdc,zdd,zde,zfT,zfU,zfV,zef,zeg,zdf,zdg,zdh,zdi,zeh,zei,zfW,zfX,zfY,zdj,zdk,zdl,zdm,zdn,zfZ,zej,zdo,zek,zf0,zf1,zdp,zdq,zdr,zel,zem,zen,zeo,zds,zdt,zdu,zf2,zf3,zep,zf4,zeq,zf5,zf6,zf7,zf8,zf9,zga,zer,zgb,zgc,zgd,zes,zge,zet,zeu,zgf,zev,zgg,zgh,zgi,zew,zgj,zgk,zgl,zgm,zgn,zgo,zex,zgp,zey,zez,zeA,zeB,zeC,zeD,zdv,zeE,zhf,zgq,zeF,zgr,zeG,zgs,zgt,zgu,zgv,zgw,zgx,zeH,zeI,zeJ,zgy,zgz,zeK,zgA,zeL,zeM,zgB,zgC,zhg,za8,zbM,zce,zbN,zcP,zbo,zbO,zbp,zbP,zal,zbq,zbr,zae,zbs,zbt,zbu,zcf,zbQ,za9,zbv,zbw,zaM,zba,zaU,zcz,zaz,zcg,zaq,zaV,zbR,zch,zbb,zbc,zbS,zbx,zaA,zbT,zbU,zci,zbd,zaf,zar,zas,zaa,zat,zaB,zaW,zbe,zbV,zcj,zbW,zcQ,zby,zbX,zbz,zbY,zam,zbA,zbB,zag,zbC,zbD,zbE,zck,zbZ,zbf,zbF,zbG,zaN,zbg,zaX,zcA,zaC,zcl,zau,zaY,zb0,zcm,zbh,zbi,zb1,zbH,zaD,zb2,zb3,zcn,zbj,zah,zav,zaw,zab,zax,zaE,zaZ,za0,za1,zai,zaj,zb4,zb5,zbk,zb6,zbI,zbJ,zco,zaF,zcR,za2,zaG,zan,za3,zaH,zay,zaO,zak,zaI,zaJ,zac,zaK,zaP,zbl,zb7,zdw,zdx,zcB,za4,zbm,zcS,zdy,zdz,zcC,zdA,zeN,zeO,zdB,zdC,zgD,zeP,zeQ,zgE,zeR,zeS,zgF,zgG,zgH,zgI,zgJ,zeT,zeU,zeV,zeW,zeX,zgK,zeY,zeZ,ze0,ze1,ze2,ze3,zgL,zgM,zgN,ze4,zdD,zgO,ze5,ze6,ze7,zgP,zgQ,zgR,zgS,ze8,zgT,ze9,zfa,zfb,zfc,zfd,zfe,zff,zdE,zcT,zcU,zcV,zcD,zcE,zfg,zfh,zfi,zfj,zfk,zgU,zfl,zfm,zfn,zgV,zgW,zgX,zgY,zgZ,zfo,zfp,zfq,zfr,zg0,zg1,zg2,zg3,zfs,zft,zg4,zfu,zfv,zfw,zfx,zfy,zdF,zfz,zfA,zfB,zfC,zfD,zg5,zfE,zg6,zg7,zg8,zg9,zha,zhb,zfF,zfG,zfH,zfI,zhc,zfJ,zfK,zfL,zfM,zfN,zb8,zcF,zcW,zcG,zfO,zcp,zcH,zcq,zcI,zaL,zcr,zcs,zao,zct,zcu,zcv,zcX,zcJ,zb9,zcw,zcx,zbn,zca,zbK,zdG,za5,zcY,zaQ,zbL,zcK,zcZ,zcb,zcc,zcL,zcy,za6,zcM,zcN,zc0,zcd,zap,zaR,zaS,zad,zaT,za7,F_FlowRun_go,if_true,if_false,zhh,zhi,cond_true,cond_false,List.zip,List.zipWith,List.length_cons,List.length_nil,Option.isSome_some,Bool.false_eq_true,reduceIte,reduceCtorEq,Nat.reduceEqDiff,Nat.reduceAdd,Nat.reduceLeDiff,Int.cast_ofNat_Int,decide_true,decide_false,Bool.and_true,Bool.true_and,Bool.and_false,Bool.false_and,Int.sub_zero,Int.reduceNeg,Nat.reduceLT,and_self,and_true,true_and,Bool.false_or,Bool.or_false,Bool.true_or,Bool.or_true,Bool.not_true,Bool.not_false,Int.natAbs_neg,Int.reduceSub,Int.reduceAdd,Int.reduceToNat,Int.natAbs_zero,Int.natAbs_one,Int.reduceLT,Int.reduceLE,Int.reduceGE,Int.reduceGT,decide_eq_true_eq,List.getElem?_cons_zero,List.getElem?_cons_succ,Nat.reduceSub,Int.reduceMul,Nat.reduceBEq,Nat.reducePow,Int.reducePow,and_false,false_and,eq_self,zc1,zcO _ _ zcB,IX,lim,F__law_worth1,h,vK,vX]
theorem w_below (l : Int) (h : H.get va = some (.dict (valE x i))) : ∀ n d : Nat, (ev (PgC lf1 lg1) (n + 60) (d + 5)).c (.fn 1659549907034316584678504) [.tup [.str 1522120028023, .int l], .ref va] H = some (.int (if x < l then -1 else 0), H) := by
  intro n d
  rw [ec_fn, callF_ _ _ _ f1_F__law_worth rfl rfl]
  by_cases q : x < l
  · rw [if_pos q]
    simp only [zdH,zdI,zdJ,zdK,zdL,zdM,zdN,zdO,zdP,zdQ,zc2,zdR,zdS,zdT,zdU,zc3,zdV,zdW,zdX,zdY,zc4,zfP,zfQ,zfR,zfS,zdZ,zd0,zd1,zd2,zd3,zd4,zd5,zd6,zc5,zc6,zd7,zd8,zd9,zea,zeb,zec,zed,zc7,zc8,zee,zhd,zhe,zc9,zda,zdb,zdc,zdd,zde,zfT,zfU,zfV,zef,zeg,zdf,zdg,zdh,zdi,zeh,zei,zfW,zfX,zfY,zdj,zdk,zdl,zdm,zdn,zfZ,zej,zdo,zek,zf0,zf1,zdp,zdq,zdr,zel,zem,zen,zeo,zds,zdt,zdu,zf2,zf3,zep,zf4,zeq,zf5,zf6,zf7,zf8,zf9,zga,zer,zgb,zgc,zgd,zes,zge,zet,zeu,zgf,zev,zgg,zgh,zgi,zew,zgj,zgk,zgl,zgm,zgn,zgo,zex,zgp,zey,zez,zeA,zeB,zeC,zeD,zdv,zeE,zhf,zgq,zeF,zgr,zeG,zgs,zgt,zgu,zgv,zgw,zgx,zeH,zeI,zeJ,zgy,zgz,zeK,zgA,zeL,zeM,zgB,zgC,zhg,za8,zbM,zce,zbN,zcP,zbo,zbO,zbp,zbP,zal,zbq,zbr,zae,zbs,zbt,zbu,zcf,zbQ,za9,zbv,zbw,zaM,zba,zaU,zcz,zaz,zcg,zaq,zaV,zbR,zch,zbb,zbc,zbS,zbx,zaA,zbT,zbU,zci,zbd,zaf,zar,zas,zaa,zat,zaB,zaW,zbe,zbV,zcj,zbW,zcQ,zby,zbX,zbz,zbY,zam,zbA,zbB,zag,zbC,zbD,zbE,zck,zbZ,zbf,zbF,zbG,zaN,zbg,zaX,zcA,zaC,zcl,zau,zaY,zb0,zcm,zbh,zbi,zb1,zbH,zaD,zb2,zb3,zcn,zbj,zah,zav,zaw,zab,zax,zaE,zaZ,za0,za1,zai,zaj,zb4,zb5,zbk,zb6,zbI,zbJ,zco,zaF,zcR,za2,zaG,zan,za3,zaH,zay,zaO,zak,zaI,zaJ,zac,zaK,zaP,zbl,zb7,zdw,zdx,zcB,za4,zbm,zcS,zdy,zdz,zcC,zdA,zeN,zeO,zdB,zdC,zgD,zeP,zeQ,zgE,zeR,zeS,zgF,zgG,zgH,zgI,zgJ,zeT,zeU,zeV,zeW,zeX,zgK,zeY,zeZ,ze0,ze1,ze2,ze3,zgL,zgM,zgN,ze4,zdD,zgO,ze5,ze6,ze7,zgP,zgQ,zgR,zgS,ze8,zgT,ze9,zfa,zfb,zfc,zfd,zfe,zff,zdE,zcT,zcU,zcV,zcD,zcE,zfg,zfh,zfi,zfj,zfk,zgU,zfl,zfm,zfn,zgV,zgW,zgX,zgY,zgZ,zfo,zfp,zfq,zfr,zg0,zg1,zg2,zg3,zfs,zft,zg4,zfu,zfv,zfw,zfx,zfy,zdF,zfz,zfA,zfB,zfC,zfD,zg5,zfE,zg6,zg7,zg8,zg9,zha,zhb,zfF,zfG,zfH,zfI,zhc,zfJ,zfK,zfL,zfM,zfN,zb8,zcF,zcW,zcG,zfO,zcp,zcH,zcq,zcI,zaL,zcr,zcs,zao,zct,zcu,zcv,zcX,zcJ,zb9,zcw,zcx,zbn,zca,zbK,zdG,za5,zcY,zaQ,zbL,zcK,zcZ,zcb,zcc,zcL,zcy,za6,zcM,zcN,zc0,zcd,zap,zaR,zaS,zad,zaT,za7,F_FlowRun_go,if_true,if_false,zhh,zhi,cond_true,cond_false,List.zip,List.zipWith,List.length_cons,List.length_nil,Option.isSome_some,Bool.false_eq_true,reduceIte,reduceCtorEq,Nat.reduceEqDiff,Nat.reduceAdd,Nat.reduceLeDiff,Int.cast_ofNat_Int,decide_true,decide_false,Bool.and_true,Bool.true_and,Bool.and_false,Bool.false_and,Int.sub_zero,Int.reduceNeg,Nat.reduceLT,and_self,and_true,true_and,Bool.false_or,Bool.or_false,Bool.true_or,Bool.or_true,Bool.not_true,Bool.not_false,Int.natAbs_neg,Int.reduceSub,Int.reduceAdd,Int.reduceToNat,Int.natAbs_zero,Int.natAbs_one,Int.reduceLT,Int.reduceLE,Int.reduceGE,Int.reduceGT,decide_eq_true_eq,List.getElem?_cons_zero,List.getElem?_cons_succ,Nat.reduceSub,Int.reduceMul,Nat.reduceBEq,Nat.reducePow,Int.reducePow,and_false,false_and,eq_self,zc1,zcO _ _ zcB,IX,lim,F__law_worth1,h,vK,vX,q]
  · rw [if_neg q]
    simp only [zdH,zdI,zdJ,zdK,zdL,zdM,zdN,zdO,zdP,zdQ,zc2,zdR,zdS,zdT,zdU,zc3,zdV,zdW,zdX,zdY,zc4,zfP,zfQ,zfR,zfS,zdZ,zd0,zd1,zd2,zd3,zd4,zd5,zd6,zc5,zc6,zd7,zd8,zd9,zea,zeb,zec,zed,zc7,zc8,zee,zhd,zhe,zc9,zda,zdb,zdc,zdd,zde,zfT,zfU,zfV,zef,zeg,zdf,zdg,zdh,zdi,zeh,zei,zfW,zfX,zfY,zdj,zdk,zdl,zdm,zdn,zfZ,zej,zdo,zek,zf0,zf1,zdp,zdq,zdr,zel,zem,zen,zeo,zds,zdt,zdu,zf2,zf3,zep,zf4,zeq,zf5,zf6,zf7,zf8,zf9,zga,zer,zgb,zgc,zgd,zes,zge,zet,zeu,zgf,zev,zgg,zgh,zgi,zew,zgj,zgk,zgl,zgm,zgn,zgo,zex,zgp,zey,zez,zeA,zeB,zeC,zeD,zdv,zeE,zhf,zgq,zeF,zgr,zeG,zgs,zgt,zgu,zgv,zgw,zgx,zeH,zeI,zeJ,zgy,zgz,zeK,zgA,zeL,zeM,zgB,zgC,zhg,za8,zbM,zce,zbN,zcP,zbo,zbO,zbp,zbP,zal,zbq,zbr,zae,zbs,zbt,zbu,zcf,zbQ,za9,zbv,zbw,zaM,zba,zaU,zcz,zaz,zcg,zaq,zaV,zbR,zch,zbb,zbc,zbS,zbx,zaA,zbT,zbU,zci,zbd,zaf,zar,zas,zaa,zat,zaB,zaW,zbe,zbV,zcj,zbW,zcQ,zby,zbX,zbz,zbY,zam,zbA,zbB,zag,zbC,zbD,zbE,zck,zbZ,zbf,zbF,zbG,zaN,zbg,zaX,zcA,zaC,zcl,zau,zaY,zb0,zcm,zbh,zbi,zb1,zbH,zaD,zb2,zb3,zcn,zbj,zah,zav,zaw,zab,zax,zaE,zaZ,za0,za1,zai,zaj,zb4,zb5,zbk,zb6,zbI,zbJ,zco,zaF,zcR,za2,zaG,zan,za3,zaH,zay,zaO,zak,zaI,zaJ,zac,zaK,zaP,zbl,zb7,zdw,zdx,zcB,za4,zbm,zcS,zdy,zdz,zcC,zdA,zeN,zeO,zdB,zdC,zgD,zeP,zeQ,zgE,zeR,zeS,zgF,zgG,zgH,zgI,zgJ,zeT,zeU,zeV,zeW,zeX,zgK,zeY,zeZ,ze0,ze1,ze2,ze3,zgL,zgM,zgN,ze4,zdD,zgO,ze5,ze6,ze7,zgP,zgQ,zgR,zgS,ze8,zgT,ze9,zfa,zfb,zfc,zfd,zfe,zff,zdE,zcT,zcU,zcV,zcD,zcE,zfg,zfh,zfi,zfj,zfk,zgU,zfl,zfm,zfn,zgV,zgW,zgX,zgY,zgZ,zfo,zfp,zfq,zfr,zg0,zg1,zg2,zg3,zfs,zft,zg4,zfu,zfv,zfw,zfx,zfy,zdF,zfz,zfA,zfB,zfC,zfD,zg5,zfE,zg6,zg7,zg8,zg9,zha,zhb,zfF,zfG,zfH,zfI,zhc,zfJ,zfK,zfL,zfM,zfN,zb8,zcF,zcW,zcG,zfO,zcp,zcH,zcq,zcI,zaL,zcr,zcs,zao,zct,zcu,zcv,zcX,zcJ,zb9,zcw,zcx,zbn,zca,zbK,zdG,za5,zcY,zaQ,zbL,zcK,zcZ,zcb,zcc,zcL,zcy,za6,zcM,zcN,zc0,zcd,zap,zaR,zaS,zad,zaT,za7,F_FlowRun_go,if_true,if_false,zhh,zhi,cond_true,cond_false,List.zip,List.zipWith,List.length_cons,List.length_nil,Option.isSome_some,Bool.false_eq_true,reduceIte,reduceCtorEq,Nat.reduceEqDiff,Nat.reduceAdd,Nat.reduceLeDiff,Int.cast_ofNat_Int,decide_true,decide_false,Bool.and_true,Bool.true_and,Bool.and_false,Bool.false_and,Int.sub_zero,Int.reduceNeg,Nat.reduceLT,and_self,and_true,true_and,Bool.false_or,Bool.or_false,Bool.true_or,Bool.or_true,Bool.not_true,Bool.not_false,Int.natAbs_neg,Int.reduceSub,Int.reduceAdd,Int.reduceToNat,Int.natAbs_zero,Int.natAbs_one,Int.reduceLT,Int.reduceLE,Int.reduceGE,Int.reduceGT,decide_eq_true_eq,List.getElem?_cons_zero,List.getElem?_cons_succ,Nat.reduceSub,Int.reduceMul,Nat.reduceBEq,Nat.reducePow,Int.reducePow,and_false,false_and,eq_self,zc1,zcO _ _ zcB,IX,lim,F__law_worth1,h,vK,vX,q]
theorem w_odd (h : H.get va = some (.dict (valE x i))) : ∀ n d : Nat, (ev (PgC lf1 lg1) (n + 60) (d + 5)).c (.fn 1659549907034316584678504) [.tup [.str 24077412], .ref va] H = some (.int (if Int.fmod x 2 = 1 then -1 else 0), H) := by
  intro n d
  rw [ec_fn, callF_ _ _ _ f1_F__law_worth rfl rfl]
  by_cases q : Int.fmod x 2 = 1
  · rw [if_pos q]
    simp only [zdH,zdI,zdJ,zdK,zdL,zdM,zdN,zdO,zdP,zdQ,zc2,zdR,zdS,zdT,zdU,zc3,zdV,zdW,zdX,zdY,zc4,zfP,zfQ,zfR,zfS,zdZ,zd0,zd1,zd2,zd3,zd4,zd5,zd6,zc5,zc6,zd7,zd8,zd9,zea,zeb,zec,zed,zc7,zc8,zee,zhd,zhe,zc9,zda,zdb,zdc,zdd,zde,zfT,zfU,zfV,zef,zeg,zdf,zdg,zdh,zdi,zeh,zei,zfW,zfX,zfY,zdj,zdk,zdl,zdm,zdn,zfZ,zej,zdo,zek,zf0,zf1,zdp,zdq,zdr,zel,zem,zen,zeo,zds,zdt,zdu,zf2,zf3,zep,zf4,zeq,zf5,zf6,zf7,zf8,zf9,zga,zer,zgb,zgc,zgd,zes,zge,zet,zeu,zgf,zev,zgg,zgh,zgi,zew,zgj,zgk,zgl,zgm,zgn,zgo,zex,zgp,zey,zez,zeA,zeB,zeC,zeD,zdv,zeE,zhf,zgq,zeF,zgr,zeG,zgs,zgt,zgu,zgv,zgw,zgx,zeH,zeI,zeJ,zgy,zgz,zeK,zgA,zeL,zeM,zgB,zgC,zhg,za8,zbM,zce,zbN,zcP,zbo,zbO,zbp,zbP,zal,zbq,zbr,zae,zbs,zbt,zbu,zcf,zbQ,za9,zbv,zbw,zaM,zba,zaU,zcz,zaz,zcg,zaq,zaV,zbR,zch,zbb,zbc,zbS,zbx,zaA,zbT,zbU,zci,zbd,zaf,zar,zas,zaa,zat,zaB,zaW,zbe,zbV,zcj,zbW,zcQ,zby,zbX,zbz,zbY,zam,zbA,zbB,zag,zbC,zbD,zbE,zck,zbZ,zbf,zbF,zbG,zaN,zbg,zaX,zcA,zaC,zcl,zau,zaY,zb0,zcm,zbh,zbi,zb1,zbH,zaD,zb2,zb3,zcn,zbj,zah,zav,zaw,zab,zax,zaE,zaZ,za0,za1,zai,zaj,zb4,zb5,zbk,zb6,zbI,zbJ,zco,zaF,zcR,za2,zaG,zan,za3,zaH,zay,zaO,zak,zaI,zaJ,zac,zaK,zaP,zbl,zb7,zdw,zdx,zcB,za4,zbm,zcS,zdy,zdz,zcC,zdA,zeN,zeO,zdB,zdC,zgD,zeP,zeQ,zgE,zeR,zeS,zgF,zgG,zgH,zgI,zgJ,zeT,zeU,zeV,zeW,zeX,zgK,zeY,zeZ,ze0,ze1,ze2,ze3,zgL,zgM,zgN,ze4,zdD,zgO,ze5,ze6,ze7,zgP,zgQ,zgR,zgS,ze8,zgT,ze9,zfa,zfb,zfc,zfd,zfe,zff,zdE,zcT,zcU,zcV,zcD,zcE,zfg,zfh,zfi,zfj,zfk,zgU,zfl,zfm,zfn,zgV,zgW,zgX,zgY,zgZ,zfo,zfp,zfq,zfr,zg0,zg1,zg2,zg3,zfs,zft,zg4,zfu,zfv,zfw,zfx,zfy,zdF,zfz,zfA,zfB,zfC,zfD,zg5,zfE,zg6,zg7,zg8,zg9,zha,zhb,zfF,zfG,zfH,zfI,zhc,zfJ,zfK,zfL,zfM,zfN,zb8,zcF,zcW,zcG,zfO,zcp,zcH,zcq,zcI,zaL,zcr,zcs,zao,zct,zcu,zcv,zcX,zcJ,zb9,zcw,zcx,zbn,zca,zbK,zdG,za5,zcY,zaQ,zbL,zcK,zcZ,zcb,zcc,zcL,zcy,za6,zcM,zcN,zc0,zcd,zap,zaR,zaS,zad,zaT,za7,F_FlowRun_go,if_true,if_false,zhh,zhi,cond_true,cond_false,List.zip,List.zipWith,List.length_cons,List.length_nil,Option.isSome_some,Bool.false_eq_true,reduceIte,reduceCtorEq,Nat.reduceEqDiff,Nat.reduceAdd,Nat.reduceLeDiff,Int.cast_ofNat_Int,decide_true,decide_false,Bool.and_true,Bool.true_and,Bool.and_false,Bool.false_and,Int.sub_zero,Int.reduceNeg,Nat.reduceLT,and_self,and_true,true_and,Bool.false_or,Bool.or_false,Bool.true_or,Bool.or_true,Bool.not_true,Bool.not_false,Int.natAbs_neg,Int.reduceSub,Int.reduceAdd,Int.reduceToNat,Int.natAbs_zero,Int.natAbs_one,Int.reduceLT,Int.reduceLE,Int.reduceGE,Int.reduceGT,decide_eq_true_eq,List.getElem?_cons_zero,List.getElem?_cons_succ,Nat.reduceSub,Int.reduceMul,Nat.reduceBEq,Nat.reducePow,Int.reducePow,and_false,false_and,eq_self,zc1,zcO _ _ zcB,IX,lim,F__law_worth1,h,vK,vX,q,Int.reduceEq]
  · rw [if_neg q]
    simp only [zdH,zdI,zdJ,zdK,zdL,zdM,zdN,zdO,zdP,zdQ,zc2,zdR,zdS,zdT,zdU,zc3,zdV,zdW,zdX,zdY,zc4,zfP,zfQ,zfR,zfS,zdZ,zd0,zd1,zd2,zd3,zd4,zd5,zd6,zc5,zc6,zd7,zd8,zd9,zea,zeb,zec,zed,zc7,zc8,zee,zhd,zhe,zc9,zda,zdb,zdc,zdd,zde,zfT,zfU,zfV,zef,zeg,zdf,zdg,zdh,zdi,zeh,zei,zfW,zfX,zfY,zdj,zdk,zdl,zdm,zdn,zfZ,zej,zdo,zek,zf0,zf1,zdp,zdq,zdr,zel,zem,zen,zeo,zds,zdt,zdu,zf2,zf3,zep,zf4,zeq,zf5,zf6,zf7,zf8,zf9,zga,zer,zgb,zgc,zgd,zes,zge,zet,zeu,zgf,zev,zgg,zgh,zgi,zew,zgj,zgk,zgl,zgm,zgn,zgo,zex,zgp,zey,zez,zeA,zeB,zeC,zeD,zdv,zeE,zhf,zgq,zeF,zgr,zeG,zgs,zgt,zgu,zgv,zgw,zgx,zeH,zeI,zeJ,zgy,zgz,zeK,zgA,zeL,zeM,zgB,zgC,zhg,za8,zbM,zce,zbN,zcP,zbo,zbO,zbp,zbP,zal,zbq,zbr,zae,zbs,zbt,zbu,zcf,zbQ,za9,zbv,zbw,zaM,zba,zaU,zcz,zaz,zcg,zaq,zaV,zbR,zch,zbb,zbc,zbS,zbx,zaA,zbT,zbU,zci,zbd,zaf,zar,zas,zaa,zat,zaB,zaW,zbe,zbV,zcj,zbW,zcQ,zby,zbX,zbz,zbY,zam,zbA,zbB,zag,zbC,zbD,zbE,zck,zbZ,zbf,zbF,zbG,zaN,zbg,zaX,zcA,zaC,zcl,zau,zaY,zb0,zcm,zbh,zbi,zb1,zbH,zaD,zb2,zb3,zcn,zbj,zah,zav,zaw,zab,zax,zaE,zaZ,za0,za1,zai,zaj,zb4,zb5,zbk,zb6,zbI,zbJ,zco,zaF,zcR,za2,zaG,zan,za3,zaH,zay,zaO,zak,zaI,zaJ,zac,zaK,zaP,zbl,zb7,zdw,zdx,zcB,za4,zbm,zcS,zdy,zdz,zcC,zdA,zeN,zeO,zdB,zdC,zgD,zeP,zeQ,zgE,zeR,zeS,zgF,zgG,zgH,zgI,zgJ,zeT,zeU,zeV,zeW,zeX,zgK,zeY,zeZ,ze0,ze1,ze2,ze3,zgL,zgM,zgN,ze4,zdD,zgO,ze5,ze6,ze7,zgP,zgQ,zgR,zgS,ze8,zgT,ze9,zfa,zfb,zfc,zfd,zfe,zff,zdE,zcT,zcU,zcV,zcD,zcE,zfg,zfh,zfi,zfj,zfk,zgU,zfl,zfm,zfn,zgV,zgW,zgX,zgY,zgZ,zfo,zfp,zfq,zfr,zg0,zg1,zg2,zg3,zfs,zft,zg4,zfu,zfv,zfw,zfx,zfy,zdF,zfz,zfA,zfB,zfC,zfD,zg5,zfE,zg6,zg7,zg8,zg9,zha,zhb,zfF,zfG,zfH,zfI,zhc,zfJ,zfK,zfL,zfM,zfN,zb8,zcF,zcW,zcG,zfO,zcp,zcH,zcq,zcI,zaL,zcr,zcs,zao,zct,zcu,zcv,zcX,zcJ,zb9,zcw,zcx,zbn,zca,zbK,zdG,za5,zcY,zaQ,zbL,zcK,zcZ,zcb,zcc,zcL,zcy,za6,zcM,zcN,zc0,zcd,zap,zaR,zaS,zad,zaT,za7,F_FlowRun_go,if_true,if_false,zhh,zhi,cond_true,cond_false,List.zip,List.zipWith,List.length_cons,List.length_nil,Option.isSome_some,Bool.false_eq_true,reduceIte,reduceCtorEq,Nat.reduceEqDiff,Nat.reduceAdd,Nat.reduceLeDiff,Int.cast_ofNat_Int,decide_true,decide_false,Bool.and_true,Bool.true_and,Bool.and_false,Bool.false_and,Int.sub_zero,Int.reduceNeg,Nat.reduceLT,and_self,and_true,true_and,Bool.false_or,Bool.or_false,Bool.true_or,Bool.or_true,Bool.not_true,Bool.not_false,Int.natAbs_neg,Int.reduceSub,Int.reduceAdd,Int.reduceToNat,Int.natAbs_zero,Int.natAbs_one,Int.reduceLT,Int.reduceLE,Int.reduceGE,Int.reduceGT,decide_eq_true_eq,List.getElem?_cons_zero,List.getElem?_cons_succ,Nat.reduceSub,Int.reduceMul,Nat.reduceBEq,Nat.reducePow,Int.reducePow,and_false,false_and,eq_self,zc1,zcO _ _ zcB,IX,lim,F__law_worth1,h,vK,vX,q,Int.reduceEq]
theorem worth_ok (h : Sx G A s H) (f : RFix G A F) (t : MV) {v : Int} (q : ∀ n d : Nat, (ev (PgC lf1 lg1) (n + 60) (d + 5)).c (.fn 1659549907034316584678504) [t, .ref A.va] H = some (.int v, H)) :
    ∀ n d : Nat, (ev (PgC lf1 lg1) (n + 80) (d + 8)).c (.fn 196254634976314992399582029673955626514985301736485678804054381246074043110747630893076508655744927425992349348968) [.ref A.r, t] H = some (.int v, H) := by
  intro n d
  rw [ec_fn, callF_ _ _ _ zar rfl rfl]
  obtain ⟨p, h'⟩ := id h
  have t := h'.at f
  simp only [zdH,zdI,zdJ,zdK,zdL,zdM,zdN,zdO,zdP,zdQ,zc2,zdR,zdS,zdT,zdU,zc3,zdV,zdW,zdX,zdY,zc4,zfP,zfQ,zfR,zfS,zdZ,zd0,zd1,zd2,zd3,zd4,zd5,zd6,zc5,zc6,zd7,zd8,zd9,zea,zeb,zec,zed,zc7,zc8,zee,zhd,zhe,zc9,zda,zdb,zdc,zdd,zde,zfT,zfU,zfV,zef,zeg,zdf,zdg,zdh,zdi,zeh,zei,zfW,zfX,zfY,zdj,zdk,zdl,zdm,zdn,zfZ,zej,zdo,zek,zf0,zf1,zdp,zdq,zdr,zel,zem,zen,zeo,zds,zdt,zdu,zf2,zf3,zep,zf4,zeq,zf5,zf6,zf7,zf8,zf9,zga,zer,zgb,zgc,zgd,zes,zge,zet,zeu,zgf,zev,zgg,zgh,zgi,zew,zgj,zgk,zgl,zgm,zgn,zgo,zex,zgp,zey,zez,zeA,zeB,zeC,zeD,zdv,zeE,zhf,zgq,zeF,zgr,zeG,zgs,zgt,zgu,zgv,zgw,zgx,zeH,zeI,zeJ,zgy,zgz,zeK,zgA,zeL,zeM,zgB,zgC,zhg,za8,zbM,zce,zbN,zcP,zbo,zbO,zbp,zbP,zal,zbq,zbr,zae,zbs,zbt,zbu,zcf,zbQ,za9,zbv,zbw,zaM,zba,zaU,zcz,zaz,zcg,zaq,zaV,zbR,zch,zbb,zbc,zbS,zbx,zaA,zbT,zbU,zci,zbd,zaf,zar,zas,zaa,zat,zaB,zaW,zbe,zbV,zcj,zbW,zcQ,zby,zbX,zbz,zbY,zam,zbA,zbB,zag,zbC,zbD,zbE,zck,zbZ,zbf,zbF,zbG,zaN,zbg,zaX,zcA,zaC,zcl,zau,zaY,zb0,zcm,zbh,zbi,zb1,zbH,zaD,zb2,zb3,zcn,zbj,zah,zav,zaw,zab,zax,zaE,zaZ,za0,za1,zai,zaj,zb4,zb5,zbk,zb6,zbI,zbJ,zco,zaF,zcR,za2,zaG,zan,za3,zaH,zay,zaO,zak,zaI,zaJ,zac,zaK,zaP,zbl,zb7,zdw,zdx,zcB,za4,zbm,zcS,zdy,zdz,zcC,zdA,zeN,zeO,zdB,zdC,zgD,zeP,zeQ,zgE,zeR,zeS,zgF,zgG,zgH,zgI,zgJ,zeT,zeU,zeV,zeW,zeX,zgK,zeY,zeZ,ze0,ze1,ze2,ze3,zgL,zgM,zgN,ze4,zdD,zgO,ze5,ze6,ze7,zgP,zgQ,zgR,zgS,ze8,zgT,ze9,zfa,zfb,zfc,zfd,zfe,zff,zdE,zcT,zcU,zcV,zcD,zcE,zfg,zfh,zfi,zfj,zfk,zgU,zfl,zfm,zfn,zgV,zgW,zgX,zgY,zgZ,zfo,zfp,zfq,zfr,zg0,zg1,zg2,zg3,zfs,zft,zg4,zfu,zfv,zfw,zfx,zfy,zdF,zfz,zfA,zfB,zfC,zfD,zg5,zfE,zg6,zg7,zg8,zg9,zha,zhb,zfF,zfG,zfH,zfI,zhc,zfJ,zfK,zfL,zfM,zfN,zb8,zcF,zcW,zcG,zfO,zcp,zcH,zcq,zcI,zaL,zcr,zcs,zao,zct,zcu,zcv,zcX,zcJ,zb9,zcw,zcx,zbn,zca,zbK,zdG,za5,zcY,zaQ,zbL,zcK,zcZ,zcb,zcc,zcL,zcy,za6,zcM,zcN,zc0,zcd,zap,zaR,zaS,zad,zaT,za7,F_FlowRun_go,if_true,if_false,zhh,zhi,cond_true,cond_false,List.zip,List.zipWith,List.length_cons,List.length_nil,Option.isSome_some,Bool.false_eq_true,reduceIte,reduceCtorEq,Nat.reduceEqDiff,Nat.reduceAdd,Nat.reduceLeDiff,Int.cast_ofNat_Int,decide_true,decide_false,Bool.and_true,Bool.true_and,Bool.and_false,Bool.false_and,Int.sub_zero,Int.reduceNeg,Nat.reduceLT,and_self,and_true,true_and,Bool.false_or,Bool.or_false,Bool.true_or,Bool.or_true,Bool.not_true,Bool.not_false,Int.natAbs_neg,Int.reduceSub,Int.reduceAdd,Int.reduceToNat,Int.natAbs_zero,Int.natAbs_one,Int.reduceLT,Int.reduceLE,Int.reduceGE,Int.reduceGT,decide_eq_true_eq,List.getElem?_cons_zero,List.getElem?_cons_succ,Nat.reduceSub,Int.reduceMul,Nat.reduceBEq,Nat.reducePow,Int.reducePow,and_false,false_and,eq_self,zc1,zcO _ _ zcB,IX,lim,F__law_worth1,t.worth,t.values,q,f1_F__law_worth]
theorem wholeI_ok (h : Sx G A s H) (f : RFix G A F) {j : Int} (hi : s.i = some j) :
    ∀ n d : Nat, (ev (PgC lf1 lg1) (n + 120) (d + 10)).c (.fn 196254634976314992399582029673955626514985301736485678804054381246074043110747630893076508655744927425992231709797) [.ref A.r, .tup [.str 6146846053, .str 329]] H = some (.int j, H) := by
  intro n d
  rw [ec_fn, callF_ _ _ _ zas rfl rfl]
  obtain ⟨p, h'⟩ := id h
  have t := h'.at f
  have b := h'.hi j hi
  have va := t.va
  rw [hi] at va
  have n1 := worth_ok h f _ (w_I va)
  have n2 : ∀ n d H, (ev (PgC lf1 lg1) (n + 40) (d + 4)).c (.fn 27050993673148788582) [.int j, .int 16] H = some (.int j, H) := fun n d H => whole_ok n d _ (by omega) (by omega) H
  simp only [zdH,zdI,zdJ,zdK,zdL,zdM,zdN,zdO,zdP,zdQ,zc2,zdR,zdS,zdT,zdU,zc3,zdV,zdW,zdX,zdY,zc4,zfP,zfQ,zfR,zfS,zdZ,zd0,zd1,zd2,zd3,zd4,zd5,zd6,zc5,zc6,zd7,zd8,zd9,zea,zeb,zec,zed,zc7,zc8,zee,zhd,zhe,zc9,zda,zdb,zdc,zdd,zde,zfT,zfU,zfV,zef,zeg,zdf,zdg,zdh,zdi,zeh,zei,zfW,zfX,zfY,zdj,zdk,zdl,zdm,zdn,zfZ,zej,zdo,zek,zf0,zf1,zdp,zdq,zdr,zel,zem,zen,zeo,zds,zdt,zdu,zf2,zf3,zep,zf4,zeq,zf5,zf6,zf7,zf8,zf9,zga,zer,zgb,zgc,zgd,zes,zge,zet,zeu,zgf,zev,zgg,zgh,zgi,zew,zgj,zgk,zgl,zgm,zgn,zgo,zex,zgp,zey,zez,zeA,zeB,zeC,zeD,zdv,zeE,zhf,zgq,zeF,zgr,zeG,zgs,zgt,zgu,zgv,zgw,zgx,zeH,zeI,zeJ,zgy,zgz,zeK,zgA,zeL,zeM,zgB,zgC,zhg,za8,zbM,zce,zbN,zcP,zbo,zbO,zbp,zbP,zal,zbq,zbr,zae,zbs,zbt,zbu,zcf,zbQ,za9,zbv,zbw,zaM,zba,zaU,zcz,zaz,zcg,zaq,zaV,zbR,zch,zbb,zbc,zbS,zbx,zaA,zbT,zbU,zci,zbd,zaf,zar,zas,zaa,zat,zaB,zaW,zbe,zbV,zcj,zbW,zcQ,zby,zbX,zbz,zbY,zam,zbA,zbB,zag,zbC,zbD,zbE,zck,zbZ,zbf,zbF,zbG,zaN,zbg,zaX,zcA,zaC,zcl,zau,zaY,zb0,zcm,zbh,zbi,zb1,zbH,zaD,zb2,zb3,zcn,zbj,zah,zav,zaw,zab,zax,zaE,zaZ,za0,za1,zai,zaj,zb4,zb5,zbk,zb6,zbI,zbJ,zco,zaF,zcR,za2,zaG,zan,za3,zaH,zay,zaO,zak,zaI,zaJ,zac,zaK,zaP,zbl,zb7,zdw,zdx,zcB,za4,zbm,zcS,zdy,zdz,zcC,zdA,zeN,zeO,zdB,zdC,zgD,zeP,zeQ,zgE,zeR,zeS,zgF,zgG,zgH,zgI,zgJ,zeT,zeU,zeV,zeW,zeX,zgK,zeY,zeZ,ze0,ze1,ze2,ze3,zgL,zgM,zgN,ze4,zdD,zgO,ze5,ze6,ze7,zgP,zgQ,zgR,zgS,ze8,zgT,ze9,zfa,zfb,zfc,zfd,zfe,zff,zdE,zcT,zcU,zcV,zcD,zcE,zfg,zfh,zfi,zfj,zfk,zgU,zfl,zfm,zfn,zgV,zgW,zgX,zgY,zgZ,zfo,zfp,zfq,zfr,zg0,zg1,zg2,zg3,zfs,zft,zg4,zfu,zfv,zfw,zfx,zfy,zdF,zfz,zfA,zfB,zfC,zfD,zg5,zfE,zg6,zg7,zg8,zg9,zha,zhb,zfF,zfG,zfH,zfI,zhc,zfJ,zfK,zfL,zfM,zfN,zb8,zcF,zcW,zcG,zfO,zcp,zcH,zcq,zcI,zaL,zcr,zcs,zao,zct,zcu,zcv,zcX,zcJ,zb9,zcw,zcx,zbn,zca,zbK,zdG,za5,zcY,zaQ,zbL,zcK,zcZ,zcb,zcc,zcL,zcy,za6,zcM,zcN,zc0,zcd,zap,zaR,zaS,zad,zaT,za7,F_FlowRun_go,if_true,if_false,zhh,zhi,cond_true,cond_false,List.zip,List.zipWith,List.length_cons,List.length_nil,Option.isSome_some,Bool.false_eq_true,reduceIte,reduceCtorEq,Nat.reduceEqDiff,Nat.reduceAdd,Nat.reduceLeDiff,Int.cast_ofNat_Int,decide_true,decide_false,Bool.and_true,Bool.true_and,Bool.and_false,Bool.false_and,Int.sub_zero,Int.reduceNeg,Nat.reduceLT,and_self,and_true,true_and,Bool.false_or,Bool.or_false,Bool.true_or,Bool.or_true,Bool.not_true,Bool.not_false,Int.natAbs_neg,Int.reduceSub,Int.reduceAdd,Int.reduceToNat,Int.natAbs_zero,Int.natAbs_one,Int.reduceLT,Int.reduceLE,Int.reduceGE,Int.reduceGT,decide_eq_true_eq,List.getElem?_cons_zero,List.getElem?_cons_succ,Nat.reduceSub,Int.reduceMul,Nat.reduceBEq,Nat.reducePow,Int.reducePow,and_false,false_and,eq_self,zc1,zcO _ _ zcB,IX,lim,F__law_worth1,t.mw,t.bits,n1,n2]
theorem valueX_ok (h : Sx G A s H) (f : RFix G A F) : ∀ n d : Nat, (ev (PgC lf1 lg1) (n + 20) (d + 3)).c (.fn 196254634976314992399582029673955626514985301736485678804054381246074043110747630922737992600407855010891708853605) [.ref A.r, .str 344] H = some (.int s.x, H) := by
  intro n d
  rw [ec_fn, callF_ _ _ _ zaa rfl rfl]
  obtain ⟨p, h'⟩ := id h
  have t := h'.at f
  simp only [zdH,zdI,zdJ,zdK,zdL,zdM,zdN,zdO,zdP,zdQ,zc2,zdR,zdS,zdT,zdU,zc3,zdV,zdW,zdX,zdY,zc4,zfP,zfQ,zfR,zfS,zdZ,zd0,zd1,zd2,zd3,zd4,zd5,zd6,zc5,zc6,zd7,zd8,zd9,zea,zeb,zec,zed,zc7,zc8,zee,zhd,zhe,zc9,zda,zdb,zdc,zdd,zde,zfT,zfU,zfV,zef,zeg,zdf,zdg,zdh,zdi,zeh,zei,zfW,zfX,zfY,zdj,zdk,zdl,zdm,zdn,zfZ,zej,zdo,zek,zf0,zf1,zdp,zdq,zdr,zel,zem,zen,zeo,zds,zdt,zdu,zf2,zf3,zep,zf4,zeq,zf5,zf6,zf7,zf8,zf9,zga,zer,zgb,zgc,zgd,zes,zge,zet,zeu,zgf,zev,zgg,zgh,zgi,zew,zgj,zgk,zgl,zgm,zgn,zgo,zex,zgp,zey,zez,zeA,zeB,zeC,zeD,zdv,zeE,zhf,zgq,zeF,zgr,zeG,zgs,zgt,zgu,zgv,zgw,zgx,zeH,zeI,zeJ,zgy,zgz,zeK,zgA,zeL,zeM,zgB,zgC,zhg,za8,zbM,zce,zbN,zcP,zbo,zbO,zbp,zbP,zal,zbq,zbr,zae,zbs,zbt,zbu,zcf,zbQ,za9,zbv,zbw,zaM,zba,zaU,zcz,zaz,zcg,zaq,zaV,zbR,zch,zbb,zbc,zbS,zbx,zaA,zbT,zbU,zci,zbd,zaf,zar,zas,zaa,zat,zaB,zaW,zbe,zbV,zcj,zbW,zcQ,zby,zbX,zbz,zbY,zam,zbA,zbB,zag,zbC,zbD,zbE,zck,zbZ,zbf,zbF,zbG,zaN,zbg,zaX,zcA,zaC,zcl,zau,zaY,zb0,zcm,zbh,zbi,zb1,zbH,zaD,zb2,zb3,zcn,zbj,zah,zav,zaw,zab,zax,zaE,zaZ,za0,za1,zai,zaj,zb4,zb5,zbk,zb6,zbI,zbJ,zco,zaF,zcR,za2,zaG,zan,za3,zaH,zay,zaO,zak,zaI,zaJ,zac,zaK,zaP,zbl,zb7,zdw,zdx,zcB,za4,zbm,zcS,zdy,zdz,zcC,zdA,zeN,zeO,zdB,zdC,zgD,zeP,zeQ,zgE,zeR,zeS,zgF,zgG,zgH,zgI,zgJ,zeT,zeU,zeV,zeW,zeX,zgK,zeY,zeZ,ze0,ze1,ze2,ze3,zgL,zgM,zgN,ze4,zdD,zgO,ze5,ze6,ze7,zgP,zgQ,zgR,zgS,ze8,zgT,ze9,zfa,zfb,zfc,zfd,zfe,zff,zdE,zcT,zcU,zcV,zcD,zcE,zfg,zfh,zfi,zfj,zfk,zgU,zfl,zfm,zfn,zgV,zgW,zgX,zgY,zgZ,zfo,zfp,zfq,zfr,zg0,zg1,zg2,zg3,zfs,zft,zg4,zfu,zfv,zfw,zfx,zfy,zdF,zfz,zfA,zfB,zfC,zfD,zg5,zfE,zg6,zg7,zg8,zg9,zha,zhb,zfF,zfG,zfH,zfI,zhc,zfJ,zfK,zfL,zfM,zfN,zb8,zcF,zcW,zcG,zfO,zcp,zcH,zcq,zcI,zaL,zcr,zcs,zao,zct,zcu,zcv,zcX,zcJ,zb9,zcw,zcx,zbn,zca,zbK,zdG,za5,zcY,zaQ,zbL,zcK,zcZ,zcb,zcc,zcL,zcy,za6,zcM,zcN,zc0,zcd,zap,zaR,zaS,zad,zaT,za7,F_FlowRun_go,if_true,if_false,zhh,zhi,cond_true,cond_false,List.zip,List.zipWith,List.length_cons,List.length_nil,Option.isSome_some,Bool.false_eq_true,reduceIte,reduceCtorEq,Nat.reduceEqDiff,Nat.reduceAdd,Nat.reduceLeDiff,Int.cast_ofNat_Int,decide_true,decide_false,Bool.and_true,Bool.true_and,Bool.and_false,Bool.false_and,Int.sub_zero,Int.reduceNeg,Nat.reduceLT,and_self,and_true,true_and,Bool.false_or,Bool.or_false,Bool.true_or,Bool.or_true,Bool.not_true,Bool.not_false,Int.natAbs_neg,Int.reduceSub,Int.reduceAdd,Int.reduceToNat,Int.natAbs_zero,Int.natAbs_one,Int.reduceLT,Int.reduceLE,Int.reduceGE,Int.reduceGT,decide_eq_true_eq,List.getElem?_cons_zero,List.getElem?_cons_succ,Nat.reduceSub,Int.reduceMul,Nat.reduceBEq,Nat.reducePow,Int.reducePow,and_false,false_and,eq_self,zc1,zcO _ _ zcB,IX,lim,F__law_worth1,t.values,t.md,t.va,vK,vX,Option.getD_some]
theorem valueI_ok (h : Sx G A s H) (f : RFix G A F) {j : Int} (hi : s.i = some j) : ∀ n d : Nat, (ev (PgC lf1 lg1) (n + 20) (d + 3)).c (.fn 196254634976314992399582029673955626514985301736485678804054381246074043110747630922737992600407855010891708853605) [.ref A.r, .str 329] H = some (.int j, H) := by
  intro n d
  rw [ec_fn, callF_ _ _ _ zaa rfl rfl]
  obtain ⟨p, h'⟩ := id h
  have t := h'.at f
  have va := t.va
  rw [hi] at va
  simp only [zdH,zdI,zdJ,zdK,zdL,zdM,zdN,zdO,zdP,zdQ,zc2,zdR,zdS,zdT,zdU,zc3,zdV,zdW,zdX,zdY,zc4,zfP,zfQ,zfR,zfS,zdZ,zd0,zd1,zd2,zd3,zd4,zd5,zd6,zc5,zc6,zd7,zd8,zd9,zea,zeb,zec,zed,zc7,zc8,zee,zhd,zhe,zc9,zda,zdb,zdc,zdd,zde,zfT,zfU,zfV,zef,zeg,zdf,zdg,zdh,zdi,zeh,zei,zfW,zfX,zfY,zdj,zdk,zdl,zdm,zdn,zfZ,zej,zdo,zek,zf0,zf1,zdp,zdq,zdr,zel,zem,zen,zeo,zds,zdt,zdu,zf2,zf3,zep,zf4,zeq,zf5,zf6,zf7,zf8,zf9,zga,zer,zgb,zgc,zgd,zes,zge,zet,zeu,zgf,zev,zgg,zgh,zgi,zew,zgj,zgk,zgl,zgm,zgn,zgo,zex,zgp,zey,zez,zeA,zeB,zeC,zeD,zdv,zeE,zhf,zgq,zeF,zgr,zeG,zgs,zgt,zgu,zgv,zgw,zgx,zeH,zeI,zeJ,zgy,zgz,zeK,zgA,zeL,zeM,zgB,zgC,zhg,za8,zbM,zce,zbN,zcP,zbo,zbO,zbp,zbP,zal,zbq,zbr,zae,zbs,zbt,zbu,zcf,zbQ,za9,zbv,zbw,zaM,zba,zaU,zcz,zaz,zcg,zaq,zaV,zbR,zch,zbb,zbc,zbS,zbx,zaA,zbT,zbU,zci,zbd,zaf,zar,zas,zaa,zat,zaB,zaW,zbe,zbV,zcj,zbW,zcQ,zby,zbX,zbz,zbY,zam,zbA,zbB,zag,zbC,zbD,zbE,zck,zbZ,zbf,zbF,zbG,zaN,zbg,zaX,zcA,zaC,zcl,zau,zaY,zb0,zcm,zbh,zbi,zb1,zbH,zaD,zb2,zb3,zcn,zbj,zah,zav,zaw,zab,zax,zaE,zaZ,za0,za1,zai,zaj,zb4,zb5,zbk,zb6,zbI,zbJ,zco,zaF,zcR,za2,zaG,zan,za3,zaH,zay,zaO,zak,zaI,zaJ,zac,zaK,zaP,zbl,zb7,zdw,zdx,zcB,za4,zbm,zcS,zdy,zdz,zcC,zdA,zeN,zeO,zdB,zdC,zgD,zeP,zeQ,zgE,zeR,zeS,zgF,zgG,zgH,zgI,zgJ,zeT,zeU,zeV,zeW,zeX,zgK,zeY,zeZ,ze0,ze1,ze2,ze3,zgL,zgM,zgN,ze4,zdD,zgO,ze5,ze6,ze7,zgP,zgQ,zgR,zgS,ze8,zgT,ze9,zfa,zfb,zfc,zfd,zfe,zff,zdE,zcT,zcU,zcV,zcD,zcE,zfg,zfh,zfi,zfj,zfk,zgU,zfl,zfm,zfn,zgV,zgW,zgX,zgY,zgZ,zfo,zfp,zfq,zfr,zg0,zg1,zg2,zg3,zfs,zft,zg4,zfu,zfv,zfw,zfx,zfy,zdF,zfz,zfA,zfB,zfC,zfD,zg5,zfE,zg6,zg7,zg8,zg9,zha,zhb,zfF,zfG,zfH,zfI,zhc,zfJ,zfK,zfL,zfM,zfN,zb8,zcF,zcW,zcG,zfO,zcp,zcH,zcq,zcI,zaL,zcr,zcs,zao,zct,zcu,zcv,zcX,zcJ,zb9,zcw,zcx,zbn,zca,zbK,zdG,za5,zcY,zaQ,zbL,zcK,zcZ,zcb,zcc,zcL,zcy,za6,zcM,zcN,zc0,zcd,zap,zaR,zaS,zad,zaT,za7,F_FlowRun_go,if_true,if_false,zhh,zhi,cond_true,cond_false,List.zip,List.zipWith,List.length_cons,List.length_nil,Option.isSome_some,Bool.false_eq_true,reduceIte,reduceCtorEq,Nat.reduceEqDiff,Nat.reduceAdd,Nat.reduceLeDiff,Int.cast_ofNat_Int,decide_true,decide_false,Bool.and_true,Bool.true_and,Bool.and_false,Bool.false_and,Int.sub_zero,Int.reduceNeg,Nat.reduceLT,and_self,and_true,true_and,Bool.false_or,Bool.or_false,Bool.true_or,Bool.or_true,Bool.not_true,Bool.not_false,Int.natAbs_neg,Int.reduceSub,Int.reduceAdd,Int.reduceToNat,Int.natAbs_zero,Int.natAbs_one,Int.reduceLT,Int.reduceLE,Int.reduceGE,Int.reduceGT,decide_eq_true_eq,List.getElem?_cons_zero,List.getElem?_cons_succ,Nat.reduceSub,Int.reduceMul,Nat.reduceBEq,Nat.reducePow,Int.reducePow,and_false,false_and,eq_self,zc1,zcO _ _ zcB,IX,lim,F__law_worth1,t.values,t.md,va,vK,vI,Option.getD_some]
theorem storeX (h : Sx G A s H) (f : RFix G A F) (v : Int) :
    ∃ H', (∀ n d : Nat, (ev (PgC lf1 lg1) (n + 20) (d + 3)).c (.fn 196254634976314992399582029673955626514985301736485678804054381246074043110747630893076508655744927425975253168741) [.ref A.r, .str 344, .int v] H = some (.none, H')) ∧ Sx G A { s with x := v } H' := by
  obtain ⟨p, h'⟩ := id h
  refine ⟨_, fun n d => ?_, p, h'.store v s.i h'.hi⟩
  rw [ec_fn, callF_ _ _ _ zat rfl rfl]
  have t := h'.at f
  simp only [zdH,zdI,zdJ,zdK,zdL,zdM,zdN,zdO,zdP,zdQ,zc2,zdR,zdS,zdT,zdU,zc3,zdV,zdW,zdX,zdY,zc4,zfP,zfQ,zfR,zfS,zdZ,zd0,zd1,zd2,zd3,zd4,zd5,zd6,zc5,zc6,zd7,zd8,zd9,zea,zeb,zec,zed,zc7,zc8,zee,zhd,zhe,zc9,zda,zdb,zdc,zdd,zde,zfT,zfU,zfV,zef,zeg,zdf,zdg,zdh,zdi,zeh,zei,zfW,zfX,zfY,zdj,zdk,zdl,zdm,zdn,zfZ,zej,zdo,zek,zf0,zf1,zdp,zdq,zdr,zel,zem,zen,zeo,zds,zdt,zdu,zf2,zf3,zep,zf4,zeq,zf5,zf6,zf7,zf8,zf9,zga,zer,zgb,zgc,zgd,zes,zge,zet,zeu,zgf,zev,zgg,zgh,zgi,zew,zgj,zgk,zgl,zgm,zgn,zgo,zex,zgp,zey,zez,zeA,zeB,zeC,zeD,zdv,zeE,zhf,zgq,zeF,zgr,zeG,zgs,zgt,zgu,zgv,zgw,zgx,zeH,zeI,zeJ,zgy,zgz,zeK,zgA,zeL,zeM,zgB,zgC,zhg,za8,zbM,zce,zbN,zcP,zbo,zbO,zbp,zbP,zal,zbq,zbr,zae,zbs,zbt,zbu,zcf,zbQ,za9,zbv,zbw,zaM,zba,zaU,zcz,zaz,zcg,zaq,zaV,zbR,zch,zbb,zbc,zbS,zbx,zaA,zbT,zbU,zci,zbd,zaf,zar,zas,zaa,zat,zaB,zaW,zbe,zbV,zcj,zbW,zcQ,zby,zbX,zbz,zbY,zam,zbA,zbB,zag,zbC,zbD,zbE,zck,zbZ,zbf,zbF,zbG,zaN,zbg,zaX,zcA,zaC,zcl,zau,zaY,zb0,zcm,zbh,zbi,zb1,zbH,zaD,zb2,zb3,zcn,zbj,zah,zav,zaw,zab,zax,zaE,zaZ,za0,za1,zai,zaj,zb4,zb5,zbk,zb6,zbI,zbJ,zco,zaF,zcR,za2,zaG,zan,za3,zaH,zay,zaO,zak,zaI,zaJ,zac,zaK,zaP,zbl,zb7,zdw,zdx,zcB,za4,zbm,zcS,zdy,zdz,zcC,zdA,zeN,zeO,zdB,zdC,zgD,zeP,zeQ,zgE,zeR,zeS,zgF,zgG,zgH,zgI,zgJ,zeT,zeU,zeV,zeW,zeX,zgK,zeY,zeZ,ze0,ze1,ze2,ze3,zgL,zgM,zgN,ze4,zdD,zgO,ze5,ze6,ze7,zgP,zgQ,zgR,zgS,ze8,zgT,ze9,zfa,zfb,zfc,zfd,zfe,zff,zdE,zcT,zcU,zcV,zcD,zcE,zfg,zfh,zfi,zfj,zfk,zgU,zfl,zfm,zfn,zgV,zgW,zgX,zgY,zgZ,zfo,zfp,zfq,zfr,zg0,zg1,zg2,zg3,zfs,zft,zg4,zfu,zfv,zfw,zfx,zfy,zdF,zfz,zfA,zfB,zfC,zfD,zg5,zfE,zg6,zg7,zg8,zg9,zha,zhb,zfF,zfG,zfH,zfI,zhc,zfJ,zfK,zfL,zfM,zfN,zb8,zcF,zcW,zcG,zfO,zcp,zcH,zcq,zcI,zaL,zcr,zcs,zao,zct,zcu,zcv,zcX,zcJ,zb9,zcw,zcx,zbn,zca,zbK,zdG,za5,zcY,zaQ,zbL,zcK,zcZ,zcb,zcc,zcL,zcy,za6,zcM,zcN,zc0,zcd,zap,zaR,zaS,zad,zaT,za7,F_FlowRun_go,if_true,if_false,zhh,zhi,cond_true,cond_false,List.zip,List.zipWith,List.length_cons,List.length_nil,Option.isSome_some,Bool.false_eq_true,reduceIte,reduceCtorEq,Nat.reduceEqDiff,Nat.reduceAdd,Nat.reduceLeDiff,Int.cast_ofNat_Int,decide_true,decide_false,Bool.and_true,Bool.true_and,Bool.and_false,Bool.false_and,Int.sub_zero,Int.reduceNeg,Nat.reduceLT,and_self,and_true,true_and,Bool.false_or,Bool.or_false,Bool.true_or,Bool.or_true,Bool.not_true,Bool.not_false,Int.natAbs_neg,Int.reduceSub,Int.reduceAdd,Int.reduceToNat,Int.natAbs_zero,Int.natAbs_one,Int.reduceLT,Int.reduceLE,Int.reduceGE,Int.reduceGT,decide_eq_true_eq,List.getElem?_cons_zero,List.getElem?_cons_succ,Nat.reduceSub,Int.reduceMul,Nat.reduceBEq,Nat.reducePow,Int.reducePow,and_false,false_and,eq_self,zc1,zcO _ _ zcB,IX,lim,F__law_worth1,t.values,t.va,vK,vL,pX,valD]
theorem storeI (h : Sx G A s H) (f : RFix G A F) (v : Int) (hv : 0 ≤ v ∧ v < 100) :
    ∃ H', (∀ n d : Nat, (ev (PgC lf1 lg1) (n + 20) (d + 3)).c (.fn 196254634976314992399582029673955626514985301736485678804054381246074043110747630893076508655744927425975253168741) [.ref A.r, .str 329, .int v] H = some (.none, H')) ∧ Sx G A { s with i := some v } H' := by
  obtain ⟨p, h'⟩ := id h
  refine ⟨_, fun n d => ?_, p, h'.store s.x (some v) fun j e => Option.some.inj e ▸ hv⟩
  rw [ec_fn, callF_ _ _ _ zat rfl rfl]
  have t := h'.at f
  simp only [zdH,zdI,zdJ,zdK,zdL,zdM,zdN,zdO,zdP,zdQ,zc2,zdR,zdS,zdT,zdU,zc3,zdV,zdW,zdX,zdY,zc4,zfP,zfQ,zfR,zfS,zdZ,zd0,zd1,zd2,zd3,zd4,zd5,zd6,zc5,zc6,zd7,zd8,zd9,zea,zeb,zec,zed,zc7,zc8,zee,zhd,zhe,zc9,zda,zdb,zdc,zdd,zde,zfT,zfU,zfV,zef,zeg,zdf,zdg,zdh,zdi,zeh,zei,zfW,zfX,zfY,zdj,zdk,zdl,zdm,zdn,zfZ,zej,zdo,zek,zf0,zf1,zdp,zdq,zdr,zel,zem,zen,zeo,zds,zdt,zdu,zf2,zf3,zep,zf4,zeq,zf5,zf6,zf7,zf8,zf9,zga,zer,zgb,zgc,zgd,zes,zge,zet,zeu,zgf,zev,zgg,zgh,zgi,zew,zgj,zgk,zgl,zgm,zgn,zgo,zex,zgp,zey,zez,zeA,zeB,zeC,zeD,zdv,zeE,zhf,zgq,zeF,zgr,zeG,zgs,zgt,zgu,zgv,zgw,zgx,zeH,zeI,zeJ,zgy,zgz,zeK,zgA,zeL,zeM,zgB,zgC,zhg,za8,zbM,zce,zbN,zcP,zbo,zbO,zbp,zbP,zal,zbq,zbr,zae,zbs,zbt,zbu,zcf,zbQ,za9,zbv,zbw,zaM,zba,zaU,zcz,zaz,zcg,zaq,zaV,zbR,zch,zbb,zbc,zbS,zbx,zaA,zbT,zbU,zci,zbd,zaf,zar,zas,zaa,zat,zaB,zaW,zbe,zbV,zcj,zbW,zcQ,zby,zbX,zbz,zbY,zam,zbA,zbB,zag,zbC,zbD,zbE,zck,zbZ,zbf,zbF,zbG,zaN,zbg,zaX,zcA,zaC,zcl,zau,zaY,zb0,zcm,zbh,zbi,zb1,zbH,zaD,zb2,zb3,zcn,zbj,zah,zav,zaw,zab,zax,zaE,zaZ,za0,za1,zai,zaj,zb4,zb5,zbk,zb6,zbI,zbJ,zco,zaF,zcR,za2,zaG,zan,za3,zaH,zay,zaO,zak,zaI,zaJ,zac,zaK,zaP,zbl,zb7,zdw,zdx,zcB,za4,zbm,zcS,zdy,zdz,zcC,zdA,zeN,zeO,zdB,zdC,zgD,zeP,zeQ,zgE,zeR,zeS,zgF,zgG,zgH,zgI,zgJ,zeT,zeU,zeV,zeW,zeX,zgK,zeY,zeZ,ze0,ze1,ze2,ze3,zgL,zgM,zgN,ze4,zdD,zgO,ze5,ze6,ze7,zgP,zgQ,zgR,zgS,ze8,zgT,ze9,zfa,zfb,zfc,zfd,zfe,zff,zdE,zcT,zcU,zcV,zcD,zcE,zfg,zfh,zfi,zfj,zfk,zgU,zfl,zfm,zfn,zgV,zgW,zgX,zgY,zgZ,zfo,zfp,zfq,zfr,zg0,zg1,zg2,zg3,zfs,zft,zg4,zfu,zfv,zfw,zfx,zfy,zdF,zfz,zfA,zfB,zfC,zfD,zg5,zfE,zg6,zg7,zg8,zg9,zha,zhb,zfF,zfG,zfH,zfI,zhc,zfJ,zfK,zfL,zfM,zfN,zb8,zcF,zcW,zcG,zfO,zcp,zcH,zcq,zcI,zaL,zcr,zcs,zao,zct,zcu,zcv,zcX,zcJ,zb9,zcw,zcx,zbn,zca,zbK,zdG,za5,zcY,zaQ,zbL,zcK,zcZ,zcb,zcc,zcL,zcy,za6,zcM,zcN,zc0,zcd,zap,zaR,zaS,zad,zaT,za7,F_FlowRun_go,if_true,if_false,zhh,zhi,cond_true,cond_false,List.zip,List.zipWith,List.length_cons,List.length_nil,Option.isSome_some,Bool.false_eq_true,reduceIte,reduceCtorEq,Nat.reduceEqDiff,Nat.reduceAdd,Nat.reduceLeDiff,Int.cast_ofNat_Int,decide_true,decide_false,Bool.and_true,Bool.true_and,Bool.and_false,Bool.false_and,Int.sub_zero,Int.reduceNeg,Nat.reduceLT,and_self,and_true,true_and,Bool.false_or,Bool.or_false,Bool.true_or,Bool.or_true,Bool.not_true,Bool.not_false,Int.natAbs_neg,Int.reduceSub,Int.reduceAdd,Int.reduceToNat,Int.natAbs_zero,Int.natAbs_one,Int.reduceLT,Int.reduceLE,Int.reduceGE,Int.reduceGT,decide_eq_true_eq,List.getElem?_cons_zero,List.getElem?_cons_succ,Nat.reduceSub,Int.reduceMul,Nat.reduceBEq,Nat.reducePow,Int.reducePow,and_false,false_and,eq_self,zc1,zcO _ _ zcB,IX,lim,F__law_worth1,t.values,t.va,vK,vL,pI,valD]
theorem place_ok (h : Sx G A s H) (f : RFix G A F) (i a : Int) (hk : okKey (.int i) plD = true) (q : dGet (.int i) plD = some (.int a)) : ∀ n d : Nat, (ev (PgC lf1 lg1) (n + 40) (d + 3)).c (.fn 26547700982972641126) [.ref A.fl, .int i] H = some (.int a, H) := by
  intro n d
  rw [ec_fn, callF_ _ _ _ zbx rfl rfl]
  obtain ⟨p, h'⟩ := id h
  have t := h'.at f
  simp only [zdH,zdI,zdJ,zdK,zdL,zdM,zdN,zdO,zdP,zdQ,zc2,zdR,zdS,zdT,zdU,zc3,zdV,zdW,zdX,zdY,zc4,zfP,zfQ,zfR,zfS,zdZ,zd0,zd1,zd2,zd3,zd4,zd5,zd6,zc5,zc6,zd7,zd8,zd9,zea,zeb,zec,zed,zc7,zc8,zee,zhd,zhe,zc9,zda,zdb,zdc,zdd,zde,zfT,zfU,zfV,zef,zeg,zdf,zdg,zdh,zdi,zeh,zei,zfW,zfX,zfY,zdj,zdk,zdl,zdm,zdn,zfZ,zej,zdo,zek,zf0,zf1,zdp,zdq,zdr,zel,zem,zen,zeo,zds,zdt,zdu,zf2,zf3,zep,zf4,zeq,zf5,zf6,zf7,zf8,zf9,zga,zer,zgb,zgc,zgd,zes,zge,zet,zeu,zgf,zev,zgg,zgh,zgi,zew,zgj,zgk,zgl,zgm,zgn,zgo,zex,zgp,zey,zez,zeA,zeB,zeC,zeD,zdv,zeE,zhf,zgq,zeF,zgr,zeG,zgs,zgt,zgu,zgv,zgw,zgx,zeH,zeI,zeJ,zgy,zgz,zeK,zgA,zeL,zeM,zgB,zgC,zhg,za8,zbM,zce,zbN,zcP,zbo,zbO,zbp,zbP,zal,zbq,zbr,zae,zbs,zbt,zbu,zcf,zbQ,za9,zbv,zbw,zaM,zba,zaU,zcz,zaz,zcg,zaq,zaV,zbR,zch,zbb,zbc,zbS,zbx,zaA,zbT,zbU,zci,zbd,zaf,zar,zas,zaa,zat,zaB,zaW,zbe,zbV,zcj,zbW,zcQ,zby,zbX,zbz,zbY,zam,zbA,zbB,zag,zbC,zbD,zbE,zck,zbZ,zbf,zbF,zbG,zaN,zbg,zaX,zcA,zaC,zcl,zau,zaY,zb0,zcm,zbh,zbi,zb1,zbH,zaD,zb2,zb3,zcn,zbj,zah,zav,zaw,zab,zax,zaE,zaZ,za0,za1,zai,zaj,zb4,zb5,zbk,zb6,zbI,zbJ,zco,zaF,zcR,za2,zaG,zan,za3,zaH,zay,zaO,zak,zaI,zaJ,zac,zaK,zaP,zbl,zb7,zdw,zdx,zcB,za4,zbm,zcS,zdy,zdz,zcC,zdA,zeN,zeO,zdB,zdC,zgD,zeP,zeQ,zgE,zeR,zeS,zgF,zgG,zgH,zgI,zgJ,zeT,zeU,zeV,zeW,zeX,zgK,zeY,zeZ,ze0,ze1,ze2,ze3,zgL,zgM,zgN,ze4,zdD,zgO,ze5,ze6,ze7,zgP,zgQ,zgR,zgS,ze8,zgT,ze9,zfa,zfb,zfc,zfd,zfe,zff,zdE,zcT,zcU,zcV,zcD,zcE,zfg,zfh,zfi,zfj,zfk,zgU,zfl,zfm,zfn,zgV,zgW,zgX,zgY,zgZ,zfo,zfp,zfq,zfr,zg0,zg1,zg2,zg3,zfs,zft,zg4,zfu,zfv,zfw,zfx,zfy,zdF,zfz,zfA,zfB,zfC,zfD,zg5,zfE,zg6,zg7,zg8,zg9,zha,zhb,zfF,zfG,zfH,zfI,zhc,zfJ,zfK,zfL,zfM,zfN,zb8,zcF,zcW,zcG,zfO,zcp,zcH,zcq,zcI,zaL,zcr,zcs,zao,zct,zcu,zcv,zcX,zcJ,zb9,zcw,zcx,zbn,zca,zbK,zdG,za5,zcY,zaQ,zbL,zcK,zcZ,zcb,zcc,zcL,zcy,za6,zcM,zcN,zc0,zcd,zap,zaR,zaS,zad,zaT,za7,F_FlowRun_go,if_true,if_false,zhh,zhi,cond_true,cond_false,List.zip,List.zipWith,List.length_cons,List.length_nil,Option.isSome_some,Bool.false_eq_true,reduceIte,reduceCtorEq,Nat.reduceEqDiff,Nat.reduceAdd,Nat.reduceLeDiff,Int.cast_ofNat_Int,decide_true,decide_false,Bool.and_true,Bool.true_and,Bool.and_false,Bool.false_and,Int.sub_zero,Int.reduceNeg,Nat.reduceLT,and_self,and_true,true_and,Bool.false_or,Bool.or_false,Bool.true_or,Bool.or_true,Bool.not_true,Bool.not_false,Int.natAbs_neg,Int.reduceSub,Int.reduceAdd,Int.reduceToNat,Int.natAbs_zero,Int.natAbs_one,Int.reduceLT,Int.reduceLE,Int.reduceGE,Int.reduceGT,decide_eq_true_eq,List.getElem?_cons_zero,List.getElem?_cons_succ,Nat.reduceSub,Int.reduceMul,Nat.reduceBEq,Nat.reducePow,Int.reducePow,and_false,false_and,eq_self,zc1,zcO _ _ zcB,IX,lim,F__law_worth1,t.places,t.pa,hk,q]
theorem eow_ok (h : Sx G A s H) (f : RFix G A F) (i a : Int) (hk : okKey (.int i) qaD = true) (q : dGet (.int i) qaD = some (.int a)) : ∀ n d : Nat, (ev (PgC lf1 lg1) (n + 40) (d + 3)).c (.fn 110619604343493981063185263717) [.ref A.fl, .int i] H = some (.int a, H) := by
  intro n d
  rw [ec_fn, callF_ _ _ _ zaA rfl rfl]
  obtain ⟨p, h'⟩ := id h
  have t := h'.at f
  simp only [zdH,zdI,zdJ,zdK,zdL,zdM,zdN,zdO,zdP,zdQ,zc2,zdR,zdS,zdT,zdU,zc3,zdV,zdW,zdX,zdY,zc4,zfP,zfQ,zfR,zfS,zdZ,zd0,zd1,zd2,zd3,zd4,zd5,zd6,zc5,zc6,zd7,zd8,zd9,zea,zeb,zec,zed,zc7,zc8,zee,zhd,zhe,zc9,zda,zdb,zdc,zdd,zde,zfT,zfU,zfV,zef,zeg,zdf,zdg,zdh,zdi,zeh,zei,zfW,zfX,zfY,zdj,zdk,zdl,zdm,zdn,zfZ,zej,zdo,zek,zf0,zf1,zdp,zdq,zdr,zel,zem,zen,zeo,zds,zdt,zdu,zf2,zf3,zep,zf4,zeq,zf5,zf6,zf7,zf8,zf9,zga,zer,zgb,zgc,zgd,zes,zge,zet,zeu,zgf,zev,zgg,zgh,zgi,zew,zgj,zgk,zgl,zgm,zgn,zgo,zex,zgp,zey,zez,zeA,zeB,zeC,zeD,zdv,zeE,zhf,zgq,zeF,zgr,zeG,zgs,zgt,zgu,zgv,zgw,zgx,zeH,zeI,zeJ,zgy,zgz,zeK,zgA,zeL,zeM,zgB,zgC,zhg,za8,zbM,zce,zbN,zcP,zbo,zbO,zbp,zbP,zal,zbq,zbr,zae,zbs,zbt,zbu,zcf,zbQ,za9,zbv,zbw,zaM,zba,zaU,zcz,zaz,zcg,zaq,zaV,zbR,zch,zbb,zbc,zbS,zbx,zaA,zbT,zbU,zci,zbd,zaf,zar,zas,zaa,zat,zaB,zaW,zbe,zbV,zcj,zbW,zcQ,zby,zbX,zbz,zbY,zam,zbA,zbB,zag,zbC,zbD,zbE,zck,zbZ,zbf,zbF,zbG,zaN,zbg,zaX,zcA,zaC,zcl,zau,zaY,zb0,zcm,zbh,zbi,zb1,zbH,zaD,zb2,zb3,zcn,zbj,zah,zav,zaw,zab,zax,zaE,zaZ,za0,za1,zai,zaj,zb4,zb5,zbk,zb6,zbI,zbJ,zco,zaF,zcR,za2,zaG,zan,za3,zaH,zay,zaO,zak,zaI,zaJ,zac,zaK,zaP,zbl,zb7,zdw,zdx,zcB,za4,zbm,zcS,zdy,zdz,zcC,zdA,zeN,zeO,zdB,zdC,zgD,zeP,zeQ,zgE,zeR,zeS,zgF,zgG,zgH,zgI,zgJ,zeT,zeU,zeV,zeW,zeX,zgK,zeY,zeZ,ze0,ze1,ze2,ze3,zgL,zgM,zgN,ze4,zdD,zgO,ze5,ze6,ze7,zgP,zgQ,zgR,zgS,ze8,zgT,ze9,zfa,zfb,zfc,zfd,zfe,zff,zdE,zcT,zcU,zcV,zcD,zcE,zfg,zfh,zfi,zfj,zfk,zgU,zfl,zfm,zfn,zgV,zgW,zgX,zgY,zgZ,zfo,zfp,zfq,zfr,zg0,zg1,zg2,zg3,zfs,zft,zg4,zfu,zfv,zfw,zfx,zfy,zdF,zfz,zfA,zfB,zfC,zfD,zg5,zfE,zg6,zg7,zg8,zg9,zha,zhb,zfF,zfG,zfH,zfI,zhc,zfJ,zfK,zfL,zfM,zfN,zb8,zcF,zcW,zcG,zfO,zcp,zcH,zcq,zcI,zaL,zcr,zcs,zao,zct,zcu,zcv,zcX,zcJ,zb9,zcw,zcx,zbn,zca,zbK,zdG,za5,zcY,zaQ,zbL,zcK,zcZ,zcb,zcc,zcL,zcy,za6,zcM,zcN,zc0,zcd,zap,zaR,zaS,zad,zaT,za7,F_FlowRun_go,if_true,if_false,zhh,zhi,cond_true,cond_false,List.zip,List.zipWith,List.length_cons,List.length_nil,Option.isSome_some,Bool.false_eq_true,reduceIte,reduceCtorEq,Nat.reduceEqDiff,Nat.reduceAdd,Nat.reduceLeDiff,Int.cast_ofNat_Int,decide_true,decide_false,Bool.and_true,Bool.true_and,Bool.and_false,Bool.false_and,Int.sub_zero,Int.reduceNeg,Nat.reduceLT,and_self,and_true,true_and,Bool.false_or,Bool.or_false,Bool.true_or,Bool.or_true,Bool.not_true,Bool.not_false,Int.natAbs_neg,Int.reduceSub,Int.reduceAdd,Int.reduceToNat,Int.natAbs_zero,Int.natAbs_one,Int.reduceLT,Int.reduceLE,Int.reduceGE,Int.reduceGT,decide_eq_true_eq,List.getElem?_cons_zero,List.getElem?_cons_succ,Nat.reduceSub,Int.reduceMul,Nat.reduceBEq,Nat.reducePow,Int.reducePow,and_false,false_and,eq_self,zc1,zcO _ _ zcB,IX,lim,F__law_worth1,t.pairs,t.qa,hk,q]
theorem cut_ok (h : St G A p s H) (f : RFix G A F) (q : Pl) (m : Nat) (hm : (pmv s.pile).take m = pmv q) : ∀ n d : Nat, (ev (PgC lf1 lg1) (n + 40) (d + 2)).c (.fn 390831091446895) [.ref A.co, .int (m : Int)] H = some (.none, (H.new (.list (pmv q))).upd A.cd (ctl H.next)) := by
  intro n d
  rw [ec_fn, callF_ _ _ _ zcf rfl rfl]
  have t := h.at f
  have c1 := h.ext _ _ f.co
  have c2 := h.cd
  have pi := h.pi
  have n1 : A.co ≠ H.next := Nat.ne_of_lt (h.ltG f.co)
  have n2 : A.cd ≠ H.next := Nat.ne_of_lt h.bcd
  have b : (pmv s.pile).length ≤ 1048576 := pmv_len _
  have b2 : (pmv q).length ≤ 1048576 := pmv_len q
  have sa : setAttr (PgC lf1 lg1) (H.new (.list (pmv q))) (.ref A.co) 6180924517 (.ref H.next) = some ((H.new (.list (pmv q))).upd A.cd (ctl H.next)) := by
    unfold setAttr
    rw [instA ((new_ne _ _ _ n1).trans c1) ((new_ne _ _ _ n2).trans c2)]
    rfl
  have b3 : (0 : Int) ≤ (m : Int) := Int.natCast_nonneg m
  generalize pmv s.pile = pm at pi b hm
  simp only [zdH,zdI,zdJ,zdK,zdL,zdM,zdN,zdO,zdP,zdQ,zc2,zdR,zdS,zdT,zdU,zc3,zdV,zdW,zdX,zdY,zc4,zfP,zfQ,zfR,zfS,zdZ,zd0,zd1,zd2,zd3,zd4,zd5,zd6,zc5,zc6,zd7,zd8,zd9,zea,zeb,zec,zed,zc7,zc8,zee,zhd,zhe,zc9,zda,zdb,zdc,zdd,zde,zfT,zfU,zfV,zef,zeg,zdf,zdg,zdh,zdi,zeh,zei,zfW,zfX,zfY,zdj,zdk,zdl,zdm,zdn,zfZ,zej,zdo,zek,zf0,zf1,zdp,zdq,zdr,zel,zem,zen,zeo,zds,zdt,zdu,zf2,zf3,zep,zf4,zeq,zf5,zf6,zf7,zf8,zf9,zga,zer,zgb,zgc,zgd,zes,zge,zet,zeu,zgf,zev,zgg,zgh,zgi,zew,zgj,zgk,zgl,zgm,zgn,zgo,zex,zgp,zey,zez,zeA,zeB,zeC,zeD,zdv,zeE,zhf,zgq,zeF,zgr,zeG,zgs,zgt,zgu,zgv,zgw,zgx,zeH,zeI,zeJ,zgy,zgz,zeK,zgA,zeL,zeM,zgB,zgC,zhg,za8,zbM,zce,zbN,zcP,zbo,zbO,zbp,zbP,zal,zbq,zbr,zae,zbs,zbt,zbu,zcf,zbQ,za9,zbv,zbw,zaM,zba,zaU,zcz,zaz,zcg,zaq,zaV,zbR,zch,zbb,zbc,zbS,zbx,zaA,zbT,zbU,zci,zbd,zaf,zar,zas,zaa,zat,zaB,zaW,zbe,zbV,zcj,zbW,zcQ,zby,zbX,zbz,zbY,zam,zbA,zbB,zag,zbC,zbD,zbE,zck,zbZ,zbf,zbF,zbG,zaN,zbg,zaX,zcA,zaC,zcl,zau,zaY,zb0,zcm,zbh,zbi,zb1,zbH,zaD,zb2,zb3,zcn,zbj,zah,zav,zaw,zab,zax,zaE,zaZ,za0,za1,zai,zaj,zb4,zb5,zbk,zb6,zbI,zbJ,zco,zaF,zcR,za2,zaG,zan,za3,zaH,zay,zaO,zak,zaI,zaJ,zac,zaK,zaP,zbl,zb7,zdw,zdx,zcB,za4,zbm,zcS,zdy,zdz,zcC,zdA,zeN,zeO,zdB,zdC,zgD,zeP,zeQ,zgE,zeR,zeS,zgF,zgG,zgH,zgI,zgJ,zeT,zeU,zeV,zeW,zeX,zgK,zeY,zeZ,ze0,ze1,ze2,ze3,zgL,zgM,zgN,ze4,zdD,zgO,ze5,ze6,ze7,zgP,zgQ,zgR,zgS,ze8,zgT,ze9,zfa,zfb,zfc,zfd,zfe,zff,zdE,zcT,zcU,zcV,zcD,zcE,zfg,zfh,zfi,zfj,zfk,zgU,zfl,zfm,zfn,zgV,zgW,zgX,zgY,zgZ,zfo,zfp,zfq,zfr,zg0,zg1,zg2,zg3,zfs,zft,zg4,zfu,zfv,zfw,zfx,zfy,zdF,zfz,zfA,zfB,zfC,zfD,zg5,zfE,zg6,zg7,zg8,zg9,zha,zhb,zfF,zfG,zfH,zfI,zhc,zfJ,zfK,zfL,zfM,zfN,zb8,zcF,zcW,zcG,zfO,zcp,zcH,zcq,zcI,zaL,zcr,zcs,zao,zct,zcu,zcv,zcX,zcJ,zb9,zcw,zcx,zbn,zca,zbK,zdG,za5,zcY,zaQ,zbL,zcK,zcZ,zcb,zcc,zcL,zcy,za6,zcM,zcN,zc0,zcd,zap,zaR,zaS,zad,zaT,za7,F_FlowRun_go,if_true,if_false,zhh,zhi,cond_true,cond_false,List.zip,List.zipWith,List.length_cons,List.length_nil,Option.isSome_some,Bool.false_eq_true,reduceIte,reduceCtorEq,Nat.reduceEqDiff,Nat.reduceAdd,Nat.reduceLeDiff,Int.cast_ofNat_Int,decide_true,decide_false,Bool.and_true,Bool.true_and,Bool.and_false,Bool.false_and,Int.sub_zero,Int.reduceNeg,Nat.reduceLT,and_self,and_true,true_and,Bool.false_or,Bool.or_false,Bool.true_or,Bool.or_true,Bool.not_true,Bool.not_false,Int.natAbs_neg,Int.reduceSub,Int.reduceAdd,Int.reduceToNat,Int.natAbs_zero,Int.natAbs_one,Int.reduceLT,Int.reduceLE,Int.reduceGE,Int.reduceGT,decide_eq_true_eq,List.getElem?_cons_zero,List.getElem?_cons_succ,Nat.reduceSub,Int.reduceMul,Nat.reduceBEq,Nat.reducePow,Int.reducePow,and_false,false_and,eq_self,zc1,zcO _ _ zcB,IX,lim,F__law_worth1,t.pile,pi,b,Int.toNat_natCast,hm,b2,sa,b3]
theorem floor_e (h : H.get p = some (.list (pmv .e))) : ∀ n d : Nat, (ev (PgC lf1 lg1) (n + 80) (d + 2)).c (.fn 25827140487513861990) [.ref p] H = some (.int 0, H) := by
  intro n d
  rw [ec_fn, callF_ _ _ _ zbt rfl rfl]
  have e : ∀ n d t b L H, (ev (PgC lf1 lg1) (n + 1) (d)).l t (.rng 0 (-1) 0) b L H = some (.nxt, L, H) := fun _ _ _ _ _ _ => rfl
  simp only [pmv] at h
  simp only [zdH,zdI,zdJ,zdK,zdL,zdM,zdN,zdO,zdP,zdQ,zc2,zdR,zdS,zdT,zdU,zc3,zdV,zdW,zdX,zdY,zc4,zfP,zfQ,zfR,zfS,zdZ,zd0,zd1,zd2,zd3,zd4,zd5,zd6,zc5,zc6,zd7,zd8,zd9,zea,zeb,zec,zed,zc7,zc8,zee,zhd,zhe,zc9,zda,zdb,zdc,zdd,zde,zfT,zfU,zfV,zef,zeg,zdf,zdg,zdh,zdi,zeh,zei,zfW,zfX,zfY,zdj,zdk,zdl,zdm,zdn,zfZ,zej,zdo,zek,zf0,zf1,zdp,zdq,zdr,zel,zem,zen,zeo,zds,zdt,zdu,zf2,zf3,zep,zf4,zeq,zf5,zf6,zf7,zf8,zf9,zga,zer,zgb,zgc,zgd,zes,zge,zet,zeu,zgf,zev,zgg,zgh,zgi,zew,zgj,zgk,zgl,zgm,zgn,zgo,zex,zgp,zey,zez,zeA,zeB,zeC,zeD,zdv,zeE,zhf,zgq,zeF,zgr,zeG,zgs,zgt,zgu,zgv,zgw,zgx,zeH,zeI,zeJ,zgy,zgz,zeK,zgA,zeL,zeM,zgB,zgC,zhg,za8,zbM,zce,zbN,zcP,zbo,zbO,zbp,zbP,zal,zbq,zbr,zae,zbs,zbt,zbu,zcf,zbQ,za9,zbv,zbw,zaM,zba,zaU,zcz,zaz,zcg,zaq,zaV,zbR,zch,zbb,zbc,zbS,zbx,zaA,zbT,zbU,zci,zbd,zaf,zar,zas,zaa,zat,zaB,zaW,zbe,zbV,zcj,zbW,zcQ,zby,zbX,zbz,zbY,zam,zbA,zbB,zag,zbC,zbD,zbE,zck,zbZ,zbf,zbF,zbG,zaN,zbg,zaX,zcA,zaC,zcl,zau,zaY,zb0,zcm,zbh,zbi,zb1,zbH,zaD,zb2,zb3,zcn,zbj,zah,zav,zaw,zab,zax,zaE,zaZ,za0,za1,zai,zaj,zb4,zb5,zbk,zb6,zbI,zbJ,zco,zaF,zcR,za2,zaG,zan,za3,zaH,zay,zaO,zak,zaI,zaJ,zac,zaK,zaP,zbl,zb7,zdw,zdx,zcB,za4,zbm,zcS,zdy,zdz,zcC,zdA,zeN,zeO,zdB,zdC,zgD,zeP,zeQ,zgE,zeR,zeS,zgF,zgG,zgH,zgI,zgJ,zeT,zeU,zeV,zeW,zeX,zgK,zeY,zeZ,ze0,ze1,ze2,ze3,zgL,zgM,zgN,ze4,zdD,zgO,ze5,ze6,ze7,zgP,zgQ,zgR,zgS,ze8,zgT,ze9,zfa,zfb,zfc,zfd,zfe,zff,zdE,zcT,zcU,zcV,zcD,zcE,zfg,zfh,zfi,zfj,zfk,zgU,zfl,zfm,zfn,zgV,zgW,zgX,zgY,zgZ,zfo,zfp,zfq,zfr,zg0,zg1,zg2,zg3,zfs,zft,zg4,zfu,zfv,zfw,zfx,zfy,zdF,zfz,zfA,zfB,zfC,zfD,zg5,zfE,zg6,zg7,zg8,zg9,zha,zhb,zfF,zfG,zfH,zfI,zhc,zfJ,zfK,zfL,zfM,zfN,zb8,zcF,zcW,zcG,zfO,zcp,zcH,zcq,zcI,zaL,zcr,zcs,zao,zct,zcu,zcv,zcX,zcJ,zb9,zcw,zcx,zbn,zca,zbK,zdG,za5,zcY,zaQ,zbL,zcK,zcZ,zcb,zcc,zcL,zcy,za6,zcM,zcN,zc0,zcd,zap,zaR,zaS,zad,zaT,za7,F_FlowRun_go,if_true,if_false,zhh,zhi,cond_true,cond_false,List.zip,List.zipWith,List.length_cons,List.length_nil,Option.isSome_some,Bool.false_eq_true,reduceIte,reduceCtorEq,Nat.reduceEqDiff,Nat.reduceAdd,Nat.reduceLeDiff,Int.cast_ofNat_Int,decide_true,decide_false,Bool.and_true,Bool.true_and,Bool.and_false,Bool.false_and,Int.sub_zero,Int.reduceNeg,Nat.reduceLT,and_self,and_true,true_and,Bool.false_or,Bool.or_false,Bool.true_or,Bool.or_true,Bool.not_true,Bool.not_false,Int.natAbs_neg,Int.reduceSub,Int.reduceAdd,Int.reduceToNat,Int.natAbs_zero,Int.natAbs_one,Int.reduceLT,Int.reduceLE,Int.reduceGE,Int.reduceGT,decide_eq_true_eq,List.getElem?_cons_zero,List.getElem?_cons_succ,Nat.reduceSub,Int.reduceMul,Nat.reduceBEq,Nat.reducePow,Int.reducePow,and_false,false_and,eq_self,zc1,zcO _ _ zcB,IX,lim,F__law_worth1,h,Nat.zero_le,e,Int.natAbs_zero,Int.toNat_zero]
theorem floor_f (l : Int) (h : H.get p = some (.list (pmv (.f l)))) : ∀ n d : Nat, (ev (PgC lf1 lg1) (n + 80) (d + 2)).c (.fn 25827140487513861990) [.ref p] H = some (.int 0, H) := by
  intro n d
  rw [ec_fn, callF_ _ _ _ zbt rfl rfl]
  simp only [pmv, forV] at h
  simp only [zdH,zdI,zdJ,zdK,zdL,zdM,zdN,zdO,zdP,zdQ,zc2,zdR,zdS,zdT,zdU,zc3,zdV,zdW,zdX,zdY,zc4,zfP,zfQ,zfR,zfS,zdZ,zd0,zd1,zd2,zd3,zd4,zd5,zd6,zc5,zc6,zd7,zd8,zd9,zea,zeb,zec,zed,zc7,zc8,zee,zhd,zhe,zc9,zda,zdb,zdc,zdd,zde,zfT,zfU,zfV,zef,zeg,zdf,zdg,zdh,zdi,zeh,zei,zfW,zfX,zfY,zdj,zdk,zdl,zdm,zdn,zfZ,zej,zdo,zek,zf0,zf1,zdp,zdq,zdr,zel,zem,zen,zeo,zds,zdt,zdu,zf2,zf3,zep,zf4,zeq,zf5,zf6,zf7,zf8,zf9,zga,zer,zgb,zgc,zgd,zes,zge,zet,zeu,zgf,zev,zgg,zgh,zgi,zew,zgj,zgk,zgl,zgm,zgn,zgo,zex,zgp,zey,zez,zeA,zeB,zeC,zeD,zdv,zeE,zhf,zgq,zeF,zgr,zeG,zgs,zgt,zgu,zgv,zgw,zgx,zeH,zeI,zeJ,zgy,zgz,zeK,zgA,zeL,zeM,zgB,zgC,zhg,za8,zbM,zce,zbN,zcP,zbo,zbO,zbp,zbP,zal,zbq,zbr,zae,zbs,zbt,zbu,zcf,zbQ,za9,zbv,zbw,zaM,zba,zaU,zcz,zaz,zcg,zaq,zaV,zbR,zch,zbb,zbc,zbS,zbx,zaA,zbT,zbU,zci,zbd,zaf,zar,zas,zaa,zat,zaB,zaW,zbe,zbV,zcj,zbW,zcQ,zby,zbX,zbz,zbY,zam,zbA,zbB,zag,zbC,zbD,zbE,zck,zbZ,zbf,zbF,zbG,zaN,zbg,zaX,zcA,zaC,zcl,zau,zaY,zb0,zcm,zbh,zbi,zb1,zbH,zaD,zb2,zb3,zcn,zbj,zah,zav,zaw,zab,zax,zaE,zaZ,za0,za1,zai,zaj,zb4,zb5,zbk,zb6,zbI,zbJ,zco,zaF,zcR,za2,zaG,zan,za3,zaH,zay,zaO,zak,zaI,zaJ,zac,zaK,zaP,zbl,zb7,zdw,zdx,zcB,za4,zbm,zcS,zdy,zdz,zcC,zdA,zeN,zeO,zdB,zdC,zgD,zeP,zeQ,zgE,zeR,zeS,zgF,zgG,zgH,zgI,zgJ,zeT,zeU,zeV,zeW,zeX,zgK,zeY,zeZ,ze0,ze1,ze2,ze3,zgL,zgM,zgN,ze4,zdD,zgO,ze5,ze6,ze7,zgP,zgQ,zgR,zgS,ze8,zgT,ze9,zfa,zfb,zfc,zfd,zfe,zff,zdE,zcT,zcU,zcV,zcD,zcE,zfg,zfh,zfi,zfj,zfk,zgU,zfl,zfm,zfn,zgV,zgW,zgX,zgY,zgZ,zfo,zfp,zfq,zfr,zg0,zg1,zg2,zg3,zfs,zft,zg4,zfu,zfv,zfw,zfx,zfy,zdF,zfz,zfA,zfB,zfC,zfD,zg5,zfE,zg6,zg7,zg8,zg9,zha,zhb,zfF,zfG,zfH,zfI,zhc,zfJ,zfK,zfL,zfM,zfN,zb8,zcF,zcW,zcG,zfO,zcp,zcH,zcq,zcI,zaL,zcr,zcs,zao,zct,zcu,zcv,zcX,zcJ,zb9,zcw,zcx,zbn,zca,zbK,zdG,za5,zcY,zaQ,zbL,zcK,zcZ,zcb,zcc,zcL,zcy,za6,zcM,zcN,zc0,zcd,zap,zaR,zaS,zad,zaT,za7,F_FlowRun_go,if_true,if_false,zhh,zhi,cond_true,cond_false,List.zip,List.zipWith,List.length_cons,List.length_nil,Option.isSome_some,Bool.false_eq_true,reduceIte,reduceCtorEq,Nat.reduceEqDiff,Nat.reduceAdd,Nat.reduceLeDiff,Int.cast_ofNat_Int,decide_true,decide_false,Bool.and_true,Bool.true_and,Bool.and_false,Bool.false_and,Int.sub_zero,Int.reduceNeg,Nat.reduceLT,and_self,and_true,true_and,Bool.false_or,Bool.or_false,Bool.true_or,Bool.or_true,Bool.not_true,Bool.not_false,Int.natAbs_neg,Int.reduceSub,Int.reduceAdd,Int.reduceToNat,Int.natAbs_zero,Int.natAbs_one,Int.reduceLT,Int.reduceLE,Int.reduceGE,Int.reduceGT,decide_eq_true_eq,List.getElem?_cons_zero,List.getElem?_cons_succ,Nat.reduceSub,Int.reduceMul,Nat.reduceBEq,Nat.reducePow,Int.reducePow,and_false,false_and,eq_self,zc1,zcO _ _ zcB,IX,lim,F__law_worth1,h,Int.toNat_one,Nat.zero_le,zdc,show (1 : Int).toNat = 0 + 1 from rfl]
theorem floor_w (h : H.get p = some (.list (pmv .w))) : ∀ n d : Nat, (ev (PgC lf1 lg1) (n + 80) (d + 2)).c (.fn 25827140487513861990) [.ref p] H = some (.int 0, H) := by
  intro n d
  rw [ec_fn, callF_ _ _ _ zbt rfl rfl]
  simp only [pmv] at h
  simp only [zdH,zdI,zdJ,zdK,zdL,zdM,zdN,zdO,zdP,zdQ,zc2,zdR,zdS,zdT,zdU,zc3,zdV,zdW,zdX,zdY,zc4,zfP,zfQ,zfR,zfS,zdZ,zd0,zd1,zd2,zd3,zd4,zd5,zd6,zc5,zc6,zd7,zd8,zd9,zea,zeb,zec,zed,zc7,zc8,zee,zhd,zhe,zc9,zda,zdb,zdc,zdd,zde,zfT,zfU,zfV,zef,zeg,zdf,zdg,zdh,zdi,zeh,zei,zfW,zfX,zfY,zdj,zdk,zdl,zdm,zdn,zfZ,zej,zdo,zek,zf0,zf1,zdp,zdq,zdr,zel,zem,zen,zeo,zds,zdt,zdu,zf2,zf3,zep,zf4,zeq,zf5,zf6,zf7,zf8,zf9,zga,zer,zgb,zgc,zgd,zes,zge,zet,zeu,zgf,zev,zgg,zgh,zgi,zew,zgj,zgk,zgl,zgm,zgn,zgo,zex,zgp,zey,zez,zeA,zeB,zeC,zeD,zdv,zeE,zhf,zgq,zeF,zgr,zeG,zgs,zgt,zgu,zgv,zgw,zgx,zeH,zeI,zeJ,zgy,zgz,zeK,zgA,zeL,zeM,zgB,zgC,zhg,za8,zbM,zce,zbN,zcP,zbo,zbO,zbp,zbP,zal,zbq,zbr,zae,zbs,zbt,zbu,zcf,zbQ,za9,zbv,zbw,zaM,zba,zaU,zcz,zaz,zcg,zaq,zaV,zbR,zch,zbb,zbc,zbS,zbx,zaA,zbT,zbU,zci,zbd,zaf,zar,zas,zaa,zat,zaB,zaW,zbe,zbV,zcj,zbW,zcQ,zby,zbX,zbz,zbY,zam,zbA,zbB,zag,zbC,zbD,zbE,zck,zbZ,zbf,zbF,zbG,zaN,zbg,zaX,zcA,zaC,zcl,zau,zaY,zb0,zcm,zbh,zbi,zb1,zbH,zaD,zb2,zb3,zcn,zbj,zah,zav,zaw,zab,zax,zaE,zaZ,za0,za1,zai,zaj,zb4,zb5,zbk,zb6,zbI,zbJ,zco,zaF,zcR,za2,zaG,zan,za3,zaH,zay,zaO,zak,zaI,zaJ,zac,zaK,zaP,zbl,zb7,zdw,zdx,zcB,za4,zbm,zcS,zdy,zdz,zcC,zdA,zeN,zeO,zdB,zdC,zgD,zeP,zeQ,zgE,zeR,zeS,zgF,zgG,zgH,zgI,zgJ,zeT,zeU,zeV,zeW,zeX,zgK,zeY,zeZ,ze0,ze1,ze2,ze3,zgL,zgM,zgN,ze4,zdD,zgO,ze5,ze6,ze7,zgP,zgQ,zgR,zgS,ze8,zgT,ze9,zfa,zfb,zfc,zfd,zfe,zff,zdE,zcT,zcU,zcV,zcD,zcE,zfg,zfh,zfi,zfj,zfk,zgU,zfl,zfm,zfn,zgV,zgW,zgX,zgY,zgZ,zfo,zfp,zfq,zfr,zg0,zg1,zg2,zg3,zfs,zft,zg4,zfu,zfv,zfw,zfx,zfy,zdF,zfz,zfA,zfB,zfC,zfD,zg5,zfE,zg6,zg7,zg8,zg9,zha,zhb,zfF,zfG,zfH,zfI,zhc,zfJ,zfK,zfL,zfM,zfN,zb8,zcF,zcW,zcG,zfO,zcp,zcH,zcq,zcI,zaL,zcr,zcs,zao,zct,zcu,zcv,zcX,zcJ,zb9,zcw,zcx,zbn,zca,zbK,zdG,za5,zcY,zaQ,zbL,zcK,zcZ,zcb,zcc,zcL,zcy,za6,zcM,zcN,zc0,zcd,zap,zaR,zaS,zad,zaT,za7,F_FlowRun_go,if_true,if_false,zhh,zhi,cond_true,cond_false,List.zip,List.zipWith,List.length_cons,List.length_nil,Option.isSome_some,Bool.false_eq_true,reduceIte,reduceCtorEq,Nat.reduceEqDiff,Nat.reduceAdd,Nat.reduceLeDiff,Int.cast_ofNat_Int,decide_true,decide_false,Bool.and_true,Bool.true_and,Bool.and_false,Bool.false_and,Int.sub_zero,Int.reduceNeg,Nat.reduceLT,and_self,and_true,true_and,Bool.false_or,Bool.or_false,Bool.true_or,Bool.or_true,Bool.not_true,Bool.not_false,Int.natAbs_neg,Int.reduceSub,Int.reduceAdd,Int.reduceToNat,Int.natAbs_zero,Int.natAbs_one,Int.reduceLT,Int.reduceLE,Int.reduceGE,Int.reduceGT,decide_eq_true_eq,List.getElem?_cons_zero,List.getElem?_cons_succ,Nat.reduceSub,Int.reduceMul,Nat.reduceBEq,Nat.reducePow,Int.reducePow,and_false,false_and,eq_self,zc1,zcO _ _ zcB,IX,lim,F__law_worth1,h,Int.toNat_one,Nat.zero_le,zdc,show (1 : Int).toNat = 0 + 1 from rfl]
theorem floor_fg (l : Int) (h : H.get p = some (.list (pmv (.fg l)))) : ∀ n d : Nat, (ev (PgC lf1 lg1) (n + 80) (d + 2)).c (.fn 25827140487513861990) [.ref p] H = some (.int 2, H) := by
  intro n d
  rw [ec_fn, callF_ _ _ _ zbt rfl rfl]
  simp only [pmv, forV] at h
  simp only [zdH,zdI,zdJ,zdK,zdL,zdM,zdN,zdO,zdP,zdQ,zc2,zdR,zdS,zdT,zdU,zc3,zdV,zdW,zdX,zdY,zc4,zfP,zfQ,zfR,zfS,zdZ,zd0,zd1,zd2,zd3,zd4,zd5,zd6,zc5,zc6,zd7,zd8,zd9,zea,zeb,zec,zed,zc7,zc8,zee,zhd,zhe,zc9,zda,zdb,zdc,zdd,zde,zfT,zfU,zfV,zef,zeg,zdf,zdg,zdh,zdi,zeh,zei,zfW,zfX,zfY,zdj,zdk,zdl,zdm,zdn,zfZ,zej,zdo,zek,zf0,zf1,zdp,zdq,zdr,zel,zem,zen,zeo,zds,zdt,zdu,zf2,zf3,zep,zf4,zeq,zf5,zf6,zf7,zf8,zf9,zga,zer,zgb,zgc,zgd,zes,zge,zet,zeu,zgf,zev,zgg,zgh,zgi,zew,zgj,zgk,zgl,zgm,zgn,zgo,zex,zgp,zey,zez,zeA,zeB,zeC,zeD,zdv,zeE,zhf,zgq,zeF,zgr,zeG,zgs,zgt,zgu,zgv,zgw,zgx,zeH,zeI,zeJ,zgy,zgz,zeK,zgA,zeL,zeM,zgB,zgC,zhg,za8,zbM,zce,zbN,zcP,zbo,zbO,zbp,zbP,zal,zbq,zbr,zae,zbs,zbt,zbu,zcf,zbQ,za9,zbv,zbw,zaM,zba,zaU,zcz,zaz,zcg,zaq,zaV,zbR,zch,zbb,zbc,zbS,zbx,zaA,zbT,zbU,zci,zbd,zaf,zar,zas,zaa,zat,zaB,zaW,zbe,zbV,zcj,zbW,zcQ,zby,zbX,zbz,zbY,zam,zbA,zbB,zag,zbC,zbD,zbE,zck,zbZ,zbf,zbF,zbG,zaN,zbg,zaX,zcA,zaC,zcl,zau,zaY,zb0,zcm,zbh,zbi,zb1,zbH,zaD,zb2,zb3,zcn,zbj,zah,zav,zaw,zab,zax,zaE,zaZ,za0,za1,zai,zaj,zb4,zb5,zbk,zb6,zbI,zbJ,zco,zaF,zcR,za2,zaG,zan,za3,zaH,zay,zaO,zak,zaI,zaJ,zac,zaK,zaP,zbl,zb7,zdw,zdx,zcB,za4,zbm,zcS,zdy,zdz,zcC,zdA,zeN,zeO,zdB,zdC,zgD,zeP,zeQ,zgE,zeR,zeS,zgF,zgG,zgH,zgI,zgJ,zeT,zeU,zeV,zeW,zeX,zgK,zeY,zeZ,ze0,ze1,ze2,ze3,zgL,zgM,zgN,ze4,zdD,zgO,ze5,ze6,ze7,zgP,zgQ,zgR,zgS,ze8,zgT,ze9,zfa,zfb,zfc,zfd,zfe,zff,zdE,zcT,zcU,zcV,zcD,zcE,zfg,zfh,zfi,zfj,zfk,zgU,zfl,zfm,zfn,zgV,zgW,zgX,zgY,zgZ,zfo,zfp,zfq,zfr,zg0,zg1,zg2,zg3,zfs,zft,zg4,zfu,zfv,zfw,zfx,zfy,zdF,zfz,zfA,zfB,zfC,zfD,zg5,zfE,zg6,zg7,zg8,zg9,zha,zhb,zfF,zfG,zfH,zfI,zhc,zfJ,zfK,zfL,zfM,zfN,zb8,zcF,zcW,zcG,zfO,zcp,zcH,zcq,zcI,zaL,zcr,zcs,zao,zct,zcu,zcv,zcX,zcJ,zb9,zcw,zcx,zbn,zca,zbK,zdG,za5,zcY,zaQ,zbL,zcK,zcZ,zcb,zcc,zcL,zcy,za6,zcM,zcN,zc0,zcd,zap,zaR,zaS,zad,zaT,za7,F_FlowRun_go,if_true,if_false,zhh,zhi,cond_true,cond_false,List.zip,List.zipWith,List.length_cons,List.length_nil,Option.isSome_some,Bool.false_eq_true,reduceIte,reduceCtorEq,Nat.reduceEqDiff,Nat.reduceAdd,Nat.reduceLeDiff,Int.cast_ofNat_Int,decide_true,decide_false,Bool.and_true,Bool.true_and,Bool.and_false,Bool.false_and,Int.sub_zero,Int.reduceNeg,Nat.reduceLT,and_self,and_true,true_and,Bool.false_or,Bool.or_false,Bool.true_or,Bool.or_true,Bool.not_true,Bool.not_false,Int.natAbs_neg,Int.reduceSub,Int.reduceAdd,Int.reduceToNat,Int.natAbs_zero,Int.natAbs_one,Int.reduceLT,Int.reduceLE,Int.reduceGE,Int.reduceGT,decide_eq_true_eq,List.getElem?_cons_zero,List.getElem?_cons_succ,Nat.reduceSub,Int.reduceMul,Nat.reduceBEq,Nat.reducePow,Int.reducePow,and_false,false_and,eq_self,zc1,zcO _ _ zcB,IX,lim,F__law_worth1,h,Int.toNat_one,Nat.zero_le,zdc,show (2 : Int).toNat = 1 + 1 from rfl]
theorem fnd_e (h : H.get p = some (.list (pmv .e))) : ∀ n d : Nat, (ev (PgC lf1 lg1) (n + 120) (d + 4)).c (.fn 25827991504983908724) [.ref p, .str 21385042, .str 329] H = some (.int (-1), H) := by
  intro n d
  rw [ec_fn, callF_ _ _ _ zbu rfl rfl]
  have e : ∀ n d t b L H, (ev (PgC lf1 lg1) (n + 1) (d)).l t (.rng (-1) (-1) 0) b L H = some (.nxt, L, H) := fun _ _ _ _ _ _ => rfl
  have n1 := floor_e h
  simp only [pmv] at h
  simp only [zdH,zdI,zdJ,zdK,zdL,zdM,zdN,zdO,zdP,zdQ,zc2,zdR,zdS,zdT,zdU,zc3,zdV,zdW,zdX,zdY,zc4,zfP,zfQ,zfR,zfS,zdZ,zd0,zd1,zd2,zd3,zd4,zd5,zd6,zc5,zc6,zd7,zd8,zd9,zea,zeb,zec,zed,zc7,zc8,zee,zhd,zhe,zc9,zda,zdb,zdc,zdd,zde,zfT,zfU,zfV,zef,zeg,zdf,zdg,zdh,zdi,zeh,zei,zfW,zfX,zfY,zdj,zdk,zdl,zdm,zdn,zfZ,zej,zdo,zek,zf0,zf1,zdp,zdq,zdr,zel,zem,zen,zeo,zds,zdt,zdu,zf2,zf3,zep,zf4,zeq,zf5,zf6,zf7,zf8,zf9,zga,zer,zgb,zgc,zgd,zes,zge,zet,zeu,zgf,zev,zgg,zgh,zgi,zew,zgj,zgk,zgl,zgm,zgn,zgo,zex,zgp,zey,zez,zeA,zeB,zeC,zeD,zdv,zeE,zhf,zgq,zeF,zgr,zeG,zgs,zgt,zgu,zgv,zgw,zgx,zeH,zeI,zeJ,zgy,zgz,zeK,zgA,zeL,zeM,zgB,zgC,zhg,za8,zbM,zce,zbN,zcP,zbo,zbO,zbp,zbP,zal,zbq,zbr,zae,zbs,zbt,zbu,zcf,zbQ,za9,zbv,zbw,zaM,zba,zaU,zcz,zaz,zcg,zaq,zaV,zbR,zch,zbb,zbc,zbS,zbx,zaA,zbT,zbU,zci,zbd,zaf,zar,zas,zaa,zat,zaB,zaW,zbe,zbV,zcj,zbW,zcQ,zby,zbX,zbz,zbY,zam,zbA,zbB,zag,zbC,zbD,zbE,zck,zbZ,zbf,zbF,zbG,zaN,zbg,zaX,zcA,zaC,zcl,zau,zaY,zb0,zcm,zbh,zbi,zb1,zbH,zaD,zb2,zb3,zcn,zbj,zah,zav,zaw,zab,zax,zaE,zaZ,za0,za1,zai,zaj,zb4,zb5,zbk,zb6,zbI,zbJ,zco,zaF,zcR,za2,zaG,zan,za3,zaH,zay,zaO,zak,zaI,zaJ,zac,zaK,zaP,zbl,zb7,zdw,zdx,zcB,za4,zbm,zcS,zdy,zdz,zcC,zdA,zeN,zeO,zdB,zdC,zgD,zeP,zeQ,zgE,zeR,zeS,zgF,zgG,zgH,zgI,zgJ,zeT,zeU,zeV,zeW,zeX,zgK,zeY,zeZ,ze0,ze1,ze2,ze3,zgL,zgM,zgN,ze4,zdD,zgO,ze5,ze6,ze7,zgP,zgQ,zgR,zgS,ze8,zgT,ze9,zfa,zfb,zfc,zfd,zfe,zff,zdE,zcT,zcU,zcV,zcD,zcE,zfg,zfh,zfi,zfj,zfk,zgU,zfl,zfm,zfn,zgV,zgW,zgX,zgY,zgZ,zfo,zfp,zfq,zfr,zg0,zg1,zg2,zg3,zfs,zft,zg4,zfu,zfv,zfw,zfx,zfy,zdF,zfz,zfA,zfB,zfC,zfD,zg5,zfE,zg6,zg7,zg8,zg9,zha,zhb,zfF,zfG,zfH,zfI,zhc,zfJ,zfK,zfL,zfM,zfN,zb8,zcF,zcW,zcG,zfO,zcp,zcH,zcq,zcI,zaL,zcr,zcs,zao,zct,zcu,zcv,zcX,zcJ,zb9,zcw,zcx,zbn,zca,zbK,zdG,za5,zcY,zaQ,zbL,zcK,zcZ,zcb,zcc,zcL,zcy,za6,zcM,zcN,zc0,zcd,zap,zaR,zaS,zad,zaT,za7,F_FlowRun_go,if_true,if_false,zhh,zhi,cond_true,cond_false,List.zip,List.zipWith,List.length_cons,List.length_nil,Option.isSome_some,Bool.false_eq_true,reduceIte,reduceCtorEq,Nat.reduceEqDiff,Nat.reduceAdd,Nat.reduceLeDiff,Int.cast_ofNat_Int,decide_true,decide_false,Bool.and_true,Bool.true_and,Bool.and_false,Bool.false_and,Int.sub_zero,Int.reduceNeg,Nat.reduceLT,and_self,and_true,true_and,Bool.false_or,Bool.or_false,Bool.true_or,Bool.or_true,Bool.not_true,Bool.not_false,Int.natAbs_neg,Int.reduceSub,Int.reduceAdd,Int.reduceToNat,Int.natAbs_zero,Int.natAbs_one,Int.reduceLT,Int.reduceLE,Int.reduceGE,Int.reduceGT,decide_eq_true_eq,List.getElem?_cons_zero,List.getElem?_cons_succ,Nat.reduceSub,Int.reduceMul,Nat.reduceBEq,Nat.reducePow,Int.reducePow,and_false,false_and,eq_self,zc1,zcO _ _ zcB,IX,lim,F__law_worth1,h,n1,Nat.zero_le,e,Int.natAbs_zero,Int.toNat_zero,Int.zero_sub]
theorem fnd_f (l : Int) (h : H.get p = some (.list (pmv (.f l)))) : ∀ n d : Nat, (ev (PgC lf1 lg1) (n + 120) (d + 4)).c (.fn 25827991504983908724) [.ref p, .str 21385042, .str 329] H = some (.int 0, H) := by
  intro n d
  rw [ec_fn, callF_ _ _ _ zbu rfl rfl]
  have n1 := floor_f l h
  simp only [pmv, forV] at h
  simp only [zdH,zdI,zdJ,zdK,zdL,zdM,zdN,zdO,zdP,zdQ,zc2,zdR,zdS,zdT,zdU,zc3,zdV,zdW,zdX,zdY,zc4,zfP,zfQ,zfR,zfS,zdZ,zd0,zd1,zd2,zd3,zd4,zd5,zd6,zc5,zc6,zd7,zd8,zd9,zea,zeb,zec,zed,zc7,zc8,zee,zhd,zhe,zc9,zda,zdb,zdc,zdd,zde,zfT,zfU,zfV,zef,zeg,zdf,zdg,zdh,zdi,zeh,zei,zfW,zfX,zfY,zdj,zdk,zdl,zdm,zdn,zfZ,zej,zdo,zek,zf0,zf1,zdp,zdq,zdr,zel,zem,zen,zeo,zds,zdt,zdu,zf2,zf3,zep,zf4,zeq,zf5,zf6,zf7,zf8,zf9,zga,zer,zgb,zgc,zgd,zes,zge,zet,zeu,zgf,zev,zgg,zgh,zgi,zew,zgj,zgk,zgl,zgm,zgn,zgo,zex,zgp,zey,zez,zeA,zeB,zeC,zeD,zdv,zeE,zhf,zgq,zeF,zgr,zeG,zgs,zgt,zgu,zgv,zgw,zgx,zeH,zeI,zeJ,zgy,zgz,zeK,zgA,zeL,zeM,zgB,zgC,zhg,za8,zbM,zce,zbN,zcP,zbo,zbO,zbp,zbP,zal,zbq,zbr,zae,zbs,zbt,zbu,zcf,zbQ,za9,zbv,zbw,zaM,zba,zaU,zcz,zaz,zcg,zaq,zaV,zbR,zch,zbb,zbc,zbS,zbx,zaA,zbT,zbU,zci,zbd,zaf,zar,zas,zaa,zat,zaB,zaW,zbe,zbV,zcj,zbW,zcQ,zby,zbX,zbz,zbY,zam,zbA,zbB,zag,zbC,zbD,zbE,zck,zbZ,zbf,zbF,zbG,zaN,zbg,zaX,zcA,zaC,zcl,zau,zaY,zb0,zcm,zbh,zbi,zb1,zbH,zaD,zb2,zb3,zcn,zbj,zah,zav,zaw,zab,zax,zaE,zaZ,za0,za1,zai,zaj,zb4,zb5,zbk,zb6,zbI,zbJ,zco,zaF,zcR,za2,zaG,zan,za3,zaH,zay,zaO,zak,zaI,zaJ,zac,zaK,zaP,zbl,zb7,zdw,zdx,zcB,za4,zbm,zcS,zdy,zdz,zcC,zdA,zeN,zeO,zdB,zdC,zgD,zeP,zeQ,zgE,zeR,zeS,zgF,zgG,zgH,zgI,zgJ,zeT,zeU,zeV,zeW,zeX,zgK,zeY,zeZ,ze0,ze1,ze2,ze3,zgL,zgM,zgN,ze4,zdD,zgO,ze5,ze6,ze7,zgP,zgQ,zgR,zgS,ze8,zgT,ze9,zfa,zfb,zfc,zfd,zfe,zff,zdE,zcT,zcU,zcV,zcD,zcE,zfg,zfh,zfi,zfj,zfk,zgU,zfl,zfm,zfn,zgV,zgW,zgX,zgY,zgZ,zfo,zfp,zfq,zfr,zg0,zg1,zg2,zg3,zfs,zft,zg4,zfu,zfv,zfw,zfx,zfy,zdF,zfz,zfA,zfB,zfC,zfD,zg5,zfE,zg6,zg7,zg8,zg9,zha,zhb,zfF,zfG,zfH,zfI,zhc,zfJ,zfK,zfL,zfM,zfN,zb8,zcF,zcW,zcG,zfO,zcp,zcH,zcq,zcI,zaL,zcr,zcs,zao,zct,zcu,zcv,zcX,zcJ,zb9,zcw,zcx,zbn,zca,zbK,zdG,za5,zcY,zaQ,zbL,zcK,zcZ,zcb,zcc,zcL,zcy,za6,zcM,zcN,zc0,zcd,zap,zaR,zaS,zad,zaT,za7,F_FlowRun_go,if_true,if_false,zhh,zhi,cond_true,cond_false,List.zip,List.zipWith,List.length_cons,List.length_nil,Option.isSome_some,Bool.false_eq_true,reduceIte,reduceCtorEq,Nat.reduceEqDiff,Nat.reduceAdd,Nat.reduceLeDiff,Int.cast_ofNat_Int,decide_true,decide_false,Bool.and_true,Bool.true_and,Bool.and_false,Bool.false_and,Int.sub_zero,Int.reduceNeg,Nat.reduceLT,and_self,and_true,true_and,Bool.false_or,Bool.or_false,Bool.true_or,Bool.or_true,Bool.not_true,Bool.not_false,Int.natAbs_neg,Int.reduceSub,Int.reduceAdd,Int.reduceToNat,Int.natAbs_zero,Int.natAbs_one,Int.reduceLT,Int.reduceLE,Int.reduceGE,Int.reduceGT,decide_eq_true_eq,List.getElem?_cons_zero,List.getElem?_cons_succ,Nat.reduceSub,Int.reduceMul,Nat.reduceBEq,Nat.reducePow,Int.reducePow,and_false,false_and,eq_self,zc1,zcO _ _ zcB,IX,lim,F__law_worth1,h,n1,Nat.zero_le,Int.natAbs_zero,Int.toNat_one,Int.zero_sub,zdc,show (1 : Int).toNat = 0 + 1 from rfl]
theorem fnd_w (h : H.get p = some (.list (pmv .w))) : ∀ n d : Nat, (ev (PgC lf1 lg1) (n + 120) (d + 4)).c (.fn 25827991504983908724) [.ref p, .str 1474386545733, .int 3] H = some (.int 0, H) := by
  intro n d
  rw [ec_fn, callF_ _ _ _ zbu rfl rfl]
  have n1 := floor_w h
  simp only [pmv] at h
  simp only [zdH,zdI,zdJ,zdK,zdL,zdM,zdN,zdO,zdP,zdQ,zc2,zdR,zdS,zdT,zdU,zc3,zdV,zdW,zdX,zdY,zc4,zfP,zfQ,zfR,zfS,zdZ,zd0,zd1,zd2,zd3,zd4,zd5,zd6,zc5,zc6,zd7,zd8,zd9,zea,zeb,zec,zed,zc7,zc8,zee,zhd,zhe,zc9,zda,zdb,zdc,zdd,zde,zfT,zfU,zfV,zef,zeg,zdf,zdg,zdh,zdi,zeh,zei,zfW,zfX,zfY,zdj,zdk,zdl,zdm,zdn,zfZ,zej,zdo,zek,zf0,zf1,zdp,zdq,zdr,zel,zem,zen,zeo,zds,zdt,zdu,zf2,zf3,zep,zf4,zeq,zf5,zf6,zf7,zf8,zf9,zga,zer,zgb,zgc,zgd,zes,zge,zet,zeu,zgf,zev,zgg,zgh,zgi,zew,zgj,zgk,zgl,zgm,zgn,zgo,zex,zgp,zey,zez,zeA,zeB,zeC,zeD,zdv,zeE,zhf,zgq,zeF,zgr,zeG,zgs,zgt,zgu,zgv,zgw,zgx,zeH,zeI,zeJ,zgy,zgz,zeK,zgA,zeL,zeM,zgB,zgC,zhg,za8,zbM,zce,zbN,zcP,zbo,zbO,zbp,zbP,zal,zbq,zbr,zae,zbs,zbt,zbu,zcf,zbQ,za9,zbv,zbw,zaM,zba,zaU,zcz,zaz,zcg,zaq,zaV,zbR,zch,zbb,zbc,zbS,zbx,zaA,zbT,zbU,zci,zbd,zaf,zar,zas,zaa,zat,zaB,zaW,zbe,zbV,zcj,zbW,zcQ,zby,zbX,zbz,zbY,zam,zbA,zbB,zag,zbC,zbD,zbE,zck,zbZ,zbf,zbF,zbG,zaN,zbg,zaX,zcA,zaC,zcl,zau,zaY,zb0,zcm,zbh,zbi,zb1,zbH,zaD,zb2,zb3,zcn,zbj,zah,zav,zaw,zab,zax,zaE,zaZ,za0,za1,zai,zaj,zb4,zb5,zbk,zb6,zbI,zbJ,zco,zaF,zcR,za2,zaG,zan,za3,zaH,zay,zaO,zak,zaI,zaJ,zac,zaK,zaP,zbl,zb7,zdw,zdx,zcB,za4,zbm,zcS,zdy,zdz,zcC,zdA,zeN,zeO,zdB,zdC,zgD,zeP,zeQ,zgE,zeR,zeS,zgF,zgG,zgH,zgI,zgJ,zeT,zeU,zeV,zeW,zeX,zgK,zeY,zeZ,ze0,ze1,ze2,ze3,zgL,zgM,zgN,ze4,zdD,zgO,ze5,ze6,ze7,zgP,zgQ,zgR,zgS,ze8,zgT,ze9,zfa,zfb,zfc,zfd,zfe,zff,zdE,zcT,zcU,zcV,zcD,zcE,zfg,zfh,zfi,zfj,zfk,zgU,zfl,zfm,zfn,zgV,zgW,zgX,zgY,zgZ,zfo,zfp,zfq,zfr,zg0,zg1,zg2,zg3,zfs,zft,zg4,zfu,zfv,zfw,zfx,zfy,zdF,zfz,zfA,zfB,zfC,zfD,zg5,zfE,zg6,zg7,zg8,zg9,zha,zhb,zfF,zfG,zfH,zfI,zhc,zfJ,zfK,zfL,zfM,zfN,zb8,zcF,zcW,zcG,zfO,zcp,zcH,zcq,zcI,zaL,zcr,zcs,zao,zct,zcu,zcv,zcX,zcJ,zb9,zcw,zcx,zbn,zca,zbK,zdG,za5,zcY,zaQ,zbL,zcK,zcZ,zcb,zcc,zcL,zcy,za6,zcM,zcN,zc0,zcd,zap,zaR,zaS,zad,zaT,za7,F_FlowRun_go,if_true,if_false,zhh,zhi,cond_true,cond_false,List.zip,List.zipWith,List.length_cons,List.length_nil,Option.isSome_some,Bool.false_eq_true,reduceIte,reduceCtorEq,Nat.reduceEqDiff,Nat.reduceAdd,Nat.reduceLeDiff,Int.cast_ofNat_Int,decide_true,decide_false,Bool.and_true,Bool.true_and,Bool.and_false,Bool.false_and,Int.sub_zero,Int.reduceNeg,Nat.reduceLT,and_self,and_true,true_and,Bool.false_or,Bool.or_false,Bool.true_or,Bool.or_true,Bool.not_true,Bool.not_false,Int.natAbs_neg,Int.reduceSub,Int.reduceAdd,Int.reduceToNat,Int.natAbs_zero,Int.natAbs_one,Int.reduceLT,Int.reduceLE,Int.reduceGE,Int.reduceGT,decide_eq_true_eq,List.getElem?_cons_zero,List.getElem?_cons_succ,Nat.reduceSub,Int.reduceMul,Nat.reduceBEq,Nat.reducePow,Int.reducePow,and_false,false_and,eq_self,zc1,zcO _ _ zcB,IX,lim,F__law_worth1,h,n1,Nat.zero_le,Int.natAbs_zero,Int.toNat_one,Int.zero_sub,zdc,show (1 : Int).toNat = 0 + 1 from rfl]
end
end Mn.Mg
end
section
set_option maxRecDepth 100000
namespace Mn.Mg
section
variable {G : Fz} {A : RA} {F : Fl} {p : Nat} {s : RS} {H : MH}
theorem St.pl (h : St G A p s H) {q : Pl} (e : s.pile = q) : H.get p = some (.list (pmv q)) := e ▸ h.pi
theorem put_ok (h : St G A p s H) (f : RFix G A F) (q : Pl) (v : MV) (hq : pmv s.pile ++ [v] = pmv q) (hl : (pmv s.pile).length < 20) : ∀ n d : Nat, (ev (PgC lf1 lg1) (n + 60) (d + 4)).c (.fn 26550255131573645166) [.ref A.co, v] H = some (.none, H.upd p (.list (pmv q))) := by
  intro n d
  rw [ec_fn, callF_ _ _ _ zbs rfl rfl]
  have t := h.at f
  have pi := h.pi
  have mp := t.mp
  have b1 : (pmv s.pile).length ≤ 1048576 := pmv_len _
  have b2 : ¬ (((pmv s.pile).length : Int) ≥ 20) := by omega
  have b3 : (pmv s.pile).length < 1048576 := by omega
  generalize pmv s.pile = pm at pi b1 b2 b3 hq
  simp only [zdH,zdI,zdJ,zdK,zdL,zdM,zdN,zdO,zdP,zdQ,zc2,zdR,zdS,zdT,zdU,zc3,zdV,zdW,zdX,zdY,zc4,zfP,zfQ,zfR,zfS,zdZ,zd0,zd1,zd2,zd3,zd4,zd5,zd6,zc5,zc6,zd7,zd8,zd9,zea,zeb,zec,zed,zc7,zc8,zee,zhd,zhe,zc9,zda,zdb,zdc,zdd,zde,zfT,zfU,zfV,zef,zeg,zdf,zdg,zdh,zdi,zeh,zei,zfW,zfX,zfY,zdj,zdk,zdl,zdm,zdn,zfZ,zej,zdo,zek,zf0,zf1,zdp,zdq,zdr,zel,zem,zen,zeo,zds,zdt,zdu,zf2,zf3,zep,zf4,zeq,zf5,zf6,zf7,zf8,zf9,zga,zer,zgb,zgc,zgd,zes,zge,zet,zeu,zgf,zev,zgg,zgh,zgi,zew,zgj,zgk,zgl,zgm,zgn,zgo,zex,zgp,zey,zez,zeA,zeB,zeC,zeD,zdv,zeE,zhf,zgq,zeF,zgr,zeG,zgs,zgt,zgu,zgv,zgw,zgx,zeH,zeI,zeJ,zgy,zgz,zeK,zgA,zeL,zeM,zgB,zgC,zhg,za8,zbM,zce,zbN,zcP,zbo,zbO,zbp,zbP,zal,zbq,zbr,zae,zbs,zbt,zbu,zcf,zbQ,za9,zbv,zbw,zaM,zba,zaU,zcz,zaz,zcg,zaq,zaV,zbR,zch,zbb,zbc,zbS,zbx,zaA,zbT,zbU,zci,zbd,zaf,zar,zas,zaa,zat,zaB,zaW,zbe,zbV,zcj,zbW,zcQ,zby,zbX,zbz,zbY,zam,zbA,zbB,zag,zbC,zbD,zbE,zck,zbZ,zbf,zbF,zbG,zaN,zbg,zaX,zcA,zaC,zcl,zau,zaY,zb0,zcm,zbh,zbi,zb1,zbH,zaD,zb2,zb3,zcn,zbj,zah,zav,zaw,zab,zax,zaE,zaZ,za0,za1,zai,zaj,zb4,zb5,zbk,zb6,zbI,zbJ,zco,zaF,zcR,za2,zaG,zan,za3,zaH,zay,zaO,zak,zaI,zaJ,zac,zaK,zaP,zbl,zb7,zdw,zdx,zcB,za4,zbm,zcS,zdy,zdz,zcC,zdA,zeN,zeO,zdB,zdC,zgD,zeP,zeQ,zgE,zeR,zeS,zgF,zgG,zgH,zgI,zgJ,zeT,zeU,zeV,zeW,zeX,zgK,zeY,zeZ,ze0,ze1,ze2,ze3,zgL,zgM,zgN,ze4,zdD,zgO,ze5,ze6,ze7,zgP,zgQ,zgR,zgS,ze8,zgT,ze9,zfa,zfb,zfc,zfd,zfe,zff,zdE,zcT,zcU,zcV,zcD,zcE,zfg,zfh,zfi,zfj,zfk,zgU,zfl,zfm,zfn,zgV,zgW,zgX,zgY,zgZ,zfo,zfp,zfq,zfr,zg0,zg1,zg2,zg3,zfs,zft,zg4,zfu,zfv,zfw,zfx,zfy,zdF,zfz,zfA,zfB,zfC,zfD,zg5,zfE,zg6,zg7,zg8,zg9,zha,zhb,zfF,zfG,zfH,zfI,zhc,zfJ,zfK,zfL,zfM,zfN,zb8,zcF,zcW,zcG,zfO,zcp,zcH,zcq,zcI,zaL,zcr,zcs,zao,zct,zcu,zcv,zcX,zcJ,zb9,zcw,zcx,zbn,zca,zbK,zdG,za5,zcY,zaQ,zbL,zcK,zcZ,zcb,zcc,zcL,zcy,za6,zcM,zcN,zc0,zcd,zap,zaR,zaS,zad,zaT,za7,F_FlowRun_go,if_true,if_false,zhh,zhi,cond_true,cond_false,List.zip,List.zipWith,List.length_cons,List.length_nil,Option.isSome_some,Bool.false_eq_true,reduceIte,reduceCtorEq,Nat.reduceEqDiff,Nat.reduceAdd,Nat.reduceLeDiff,Int.cast_ofNat_Int,decide_true,decide_false,Bool.and_true,Bool.true_and,Bool.and_false,Bool.false_and,Int.sub_zero,Int.reduceNeg,Nat.reduceLT,and_self,and_true,true_and,Bool.false_or,Bool.or_false,Bool.true_or,Bool.or_true,Bool.not_true,Bool.not_false,Int.natAbs_neg,Int.reduceSub,Int.reduceAdd,Int.reduceToNat,Int.natAbs_zero,Int.natAbs_one,Int.reduceLT,Int.reduceLE,Int.reduceGE,Int.reduceGT,decide_eq_true_eq,List.getElem?_cons_zero,List.getElem?_cons_succ,Nat.reduceSub,Int.reduceMul,Nat.reduceBEq,Nat.reducePow,Int.reducePow,and_false,false_and,eq_self,zc1,zcO _ _ zcB,IX,lim,t.pile,t.most,pi,mp,b1,b2,b3,hq]
theorem forb_ok (h : St G A p s H) (f : RFix G A F) (l : Int) (hp : s.pile = .e) : ∀ n d : Nat, (ev (PgC lf1 lg1) (n + 140) (d + 6)).c (.fn 6611964964349787203950) [.ref A.co, .str 329, .int 1, .int l, .int 1] H = some (.none, H.upd p (.list (pmv (.f l)))) := by
  intro n d
  rw [ec_fn, callF_ _ _ _ za9 rfl rfl]
  have t := h.at f
  have n1 := fnd_e (h.pl hp)
  have n2 := put_ok h f (.f l) (.tup [.str 21385042, .str 329, .int 1, .int l, .int 1]) (by rw [hp]; rfl) (by rw [hp]; decide)
  simp only [zdH,zdI,zdJ,zdK,zdL,zdM,zdN,zdO,zdP,zdQ,zc2,zdR,zdS,zdT,zdU,zc3,zdV,zdW,zdX,zdY,zc4,zfP,zfQ,zfR,zfS,zdZ,zd0,zd1,zd2,zd3,zd4,zd5,zd6,zc5,zc6,zd7,zd8,zd9,zea,zeb,zec,zed,zc7,zc8,zee,zhd,zhe,zc9,zda,zdb,zdc,zdd,zde,zfT,zfU,zfV,zef,zeg,zdf,zdg,zdh,zdi,zeh,zei,zfW,zfX,zfY,zdj,zdk,zdl,zdm,zdn,zfZ,zej,zdo,zek,zf0,zf1,zdp,zdq,zdr,zel,zem,zen,zeo,zds,zdt,zdu,zf2,zf3,zep,zf4,zeq,zf5,zf6,zf7,zf8,zf9,zga,zer,zgb,zgc,zgd,zes,zge,zet,zeu,zgf,zev,zgg,zgh,zgi,zew,zgj,zgk,zgl,zgm,zgn,zgo,zex,zgp,zey,zez,zeA,zeB,zeC,zeD,zdv,zeE,zhf,zgq,zeF,zgr,zeG,zgs,zgt,zgu,zgv,zgw,zgx,zeH,zeI,zeJ,zgy,zgz,zeK,zgA,zeL,zeM,zgB,zgC,zhg,za8,zbM,zce,zbN,zcP,zbo,zbO,zbp,zbP,zal,zbq,zbr,zae,zbs,zbt,zbu,zcf,zbQ,za9,zbv,zbw,zaM,zba,zaU,zcz,zaz,zcg,zaq,zaV,zbR,zch,zbb,zbc,zbS,zbx,zaA,zbT,zbU,zci,zbd,zaf,zar,zas,zaa,zat,zaB,zaW,zbe,zbV,zcj,zbW,zcQ,zby,zbX,zbz,zbY,zam,zbA,zbB,zag,zbC,zbD,zbE,zck,zbZ,zbf,zbF,zbG,zaN,zbg,zaX,zcA,zaC,zcl,zau,zaY,zb0,zcm,zbh,zbi,zb1,zbH,zaD,zb2,zb3,zcn,zbj,zah,zav,zaw,zab,zax,zaE,zaZ,za0,za1,zai,zaj,zb4,zb5,zbk,zb6,zbI,zbJ,zco,zaF,zcR,za2,zaG,zan,za3,zaH,zay,zaO,zak,zaI,zaJ,zac,zaK,zaP,zbl,zb7,zdw,zdx,zcB,za4,zbm,zcS,zdy,zdz,zcC,zdA,zeN,zeO,zdB,zdC,zgD,zeP,zeQ,zgE,zeR,zeS,zgF,zgG,zgH,zgI,zgJ,zeT,zeU,zeV,zeW,zeX,zgK,zeY,zeZ,ze0,ze1,ze2,ze3,zgL,zgM,zgN,ze4,zdD,zgO,ze5,ze6,ze7,zgP,zgQ,zgR,zgS,ze8,zgT,ze9,zfa,zfb,zfc,zfd,zfe,zff,zdE,zcT,zcU,zcV,zcD,zcE,zfg,zfh,zfi,zfj,zfk,zgU,zfl,zfm,zfn,zgV,zgW,zgX,zgY,zgZ,zfo,zfp,zfq,zfr,zg0,zg1,zg2,zg3,zfs,zft,zg4,zfu,zfv,zfw,zfx,zfy,zdF,zfz,zfA,zfB,zfC,zfD,zg5,zfE,zg6,zg7,zg8,zg9,zha,zhb,zfF,zfG,zfH,zfI,zhc,zfJ,zfK,zfL,zfM,zfN,zb8,zcF,zcW,zcG,zfO,zcp,zcH,zcq,zcI,zaL,zcr,zcs,zao,zct,zcu,zcv,zcX,zcJ,zb9,zcw,zcx,zbn,zca,zbK,zdG,za5,zcY,zaQ,zbL,zcK,zcZ,zcb,zcc,zcL,zcy,za6,zcM,zcN,zc0,zcd,zap,zaR,zaS,zad,zaT,za7,F_FlowRun_go,if_true,if_false,zhh,zhi,cond_true,cond_false,List.zip,List.zipWith,List.length_cons,List.length_nil,Option.isSome_some,Bool.false_eq_true,reduceIte,reduceCtorEq,Nat.reduceEqDiff,Nat.reduceAdd,Nat.reduceLeDiff,Int.cast_ofNat_Int,decide_true,decide_false,Bool.and_true,Bool.true_and,Bool.and_false,Bool.false_and,Int.sub_zero,Int.reduceNeg,Nat.reduceLT,and_self,and_true,true_and,Bool.false_or,Bool.or_false,Bool.true_or,Bool.or_true,Bool.not_true,Bool.not_false,Int.natAbs_neg,Int.reduceSub,Int.reduceAdd,Int.reduceToNat,Int.natAbs_zero,Int.natAbs_one,Int.reduceLT,Int.reduceLE,Int.reduceGE,Int.reduceGT,decide_eq_true_eq,List.getElem?_cons_zero,List.getElem?_cons_succ,Nat.reduceSub,Int.reduceMul,Nat.reduceBEq,Nat.reducePow,Int.reducePow,and_false,false_and,eq_self,zc1,zcO _ _ zcB,IX,lim,t.pile,n1,n2]
theorem plus_ok (h : St G A p s H) (f : RFix G A F) (i j : Int) (h1 : -32768 ≤ i + j) (h2 : i + j < 32768) : ∀ n d : Nat, (ev (PgC lf1 lg1) (n + 90) (d + 8)).c (.bm A.r 196254634976314992399582029673955626514985301736485678804054381246074043110747630893076508655744927424386047964531) [.int i, .int j] H = some (.int (i + j), H) := by
  intro n d
  rw [ec_bm, callF_ _ _ _ zaB rfl rfl]
  have t := h.at f
  have n1 : ∀ n d H, (ev (PgC lf1 lg1) (n + 60) (d + 6)).c (.fn 26689848079763268964) [.str 299, .int i, .int j, .int 16, .int 9] H = some (.int (i + j), H) := fun n d H => reck_ok n d i j h1 h2 H
  simp only [zdH,zdI,zdJ,zdK,zdL,zdM,zdN,zdO,zdP,zdQ,zc2,zdR,zdS,zdT,zdU,zc3,zdV,zdW,zdX,zdY,zc4,zfP,zfQ,zfR,zfS,zdZ,zd0,zd1,zd2,zd3,zd4,zd5,zd6,zc5,zc6,zd7,zd8,zd9,zea,zeb,zec,zed,zc7,zc8,zee,zhd,zhe,zc9,zda,zdb,zdc,zdd,zde,zfT,zfU,zfV,zef,zeg,zdf,zdg,zdh,zdi,zeh,zei,zfW,zfX,zfY,zdj,zdk,zdl,zdm,zdn,zfZ,zej,zdo,zek,zf0,zf1,zdp,zdq,zdr,zel,zem,zen,zeo,zds,zdt,zdu,zf2,zf3,zep,zf4,zeq,zf5,zf6,zf7,zf8,zf9,zga,zer,zgb,zgc,zgd,zes,zge,zet,zeu,zgf,zev,zgg,zgh,zgi,zew,zgj,zgk,zgl,zgm,zgn,zgo,zex,zgp,zey,zez,zeA,zeB,zeC,zeD,zdv,zeE,zhf,zgq,zeF,zgr,zeG,zgs,zgt,zgu,zgv,zgw,zgx,zeH,zeI,zeJ,zgy,zgz,zeK,zgA,zeL,zeM,zgB,zgC,zhg,za8,zbM,zce,zbN,zcP,zbo,zbO,zbp,zbP,zal,zbq,zbr,zae,zbs,zbt,zbu,zcf,zbQ,za9,zbv,zbw,zaM,zba,zaU,zcz,zaz,zcg,zaq,zaV,zbR,zch,zbb,zbc,zbS,zbx,zaA,zbT,zbU,zci,zbd,zaf,zar,zas,zaa,zat,zaB,zaW,zbe,zbV,zcj,zbW,zcQ,zby,zbX,zbz,zbY,zam,zbA,zbB,zag,zbC,zbD,zbE,zck,zbZ,zbf,zbF,zbG,zaN,zbg,zaX,zcA,zaC,zcl,zau,zaY,zb0,zcm,zbh,zbi,zb1,zbH,zaD,zb2,zb3,zcn,zbj,zah,zav,zaw,zab,zax,zaE,zaZ,za0,za1,zai,zaj,zb4,zb5,zbk,zb6,zbI,zbJ,zco,zaF,zcR,za2,zaG,zan,za3,zaH,zay,zaO,zak,zaI,zaJ,zac,zaK,zaP,zbl,zb7,zdw,zdx,zcB,za4,zbm,zcS,zdy,zdz,zcC,zdA,zeN,zeO,zdB,zdC,zgD,zeP,zeQ,zgE,zeR,zeS,zgF,zgG,zgH,zgI,zgJ,zeT,zeU,zeV,zeW,zeX,zgK,zeY,zeZ,ze0,ze1,ze2,ze3,zgL,zgM,zgN,ze4,zdD,zgO,ze5,ze6,ze7,zgP,zgQ,zgR,zgS,ze8,zgT,ze9,zfa,zfb,zfc,zfd,zfe,zff,zdE,zcT,zcU,zcV,zcD,zcE,zfg,zfh,zfi,zfj,zfk,zgU,zfl,zfm,zfn,zgV,zgW,zgX,zgY,zgZ,zfo,zfp,zfq,zfr,zg0,zg1,zg2,zg3,zfs,zft,zg4,zfu,zfv,zfw,zfx,zfy,zdF,zfz,zfA,zfB,zfC,zfD,zg5,zfE,zg6,zg7,zg8,zg9,zha,zhb,zfF,zfG,zfH,zfI,zhc,zfJ,zfK,zfL,zfM,zfN,zb8,zcF,zcW,zcG,zfO,zcp,zcH,zcq,zcI,zaL,zcr,zcs,zao,zct,zcu,zcv,zcX,zcJ,zb9,zcw,zcx,zbn,zca,zbK,zdG,za5,zcY,zaQ,zbL,zcK,zcZ,zcb,zcc,zcL,zcy,za6,zcM,zcN,zc0,zcd,zap,zaR,zaS,zad,zaT,za7,F_FlowRun_go,if_true,if_false,zhh,zhi,cond_true,cond_false,List.zip,List.zipWith,List.length_cons,List.length_nil,Option.isSome_some,Bool.false_eq_true,reduceIte,reduceCtorEq,Nat.reduceEqDiff,Nat.reduceAdd,Nat.reduceLeDiff,Int.cast_ofNat_Int,decide_true,decide_false,Bool.and_true,Bool.true_and,Bool.and_false,Bool.false_and,Int.sub_zero,Int.reduceNeg,Nat.reduceLT,and_self,and_true,true_and,Bool.false_or,Bool.or_false,Bool.true_or,Bool.or_true,Bool.not_true,Bool.not_false,Int.natAbs_neg,Int.reduceSub,Int.reduceAdd,Int.reduceToNat,Int.natAbs_zero,Int.natAbs_one,Int.reduceLT,Int.reduceLE,Int.reduceGE,Int.reduceGT,decide_eq_true_eq,List.getElem?_cons_zero,List.getElem?_cons_succ,Nat.reduceSub,Int.reduceMul,Nat.reduceBEq,Nat.reducePow,Int.reducePow,and_false,false_and,eq_self,zc1,zcO _ _ zcB,IX,lim,t.bits,t.digits,n1]
theorem forname_ok (h : St G A p s H) (f : RFix G A F) (l : Int) (hp : s.pile = .f l) : ∀ n d : Nat, (ev (PgC lf1 lg1) (n + 140) (d + 6)).c (.fn 25827988142192422245) [.ref A.co, .str 329] H = some (.str 329, H) := by
  intro n d
  rw [ec_fn, callF_ _ _ _ zbv rfl rfl]
  have t := h.at f
  have n1 := fnd_f l (h.pl hp)
  have pi := h.pl hp
  simp only [pmv, forV] at pi
  simp only [zdH,zdI,zdJ,zdK,zdL,zdM,zdN,zdO,zdP,zdQ,zc2,zdR,zdS,zdT,zdU,zc3,zdV,zdW,zdX,zdY,zc4,zfP,zfQ,zfR,zfS,zdZ,zd0,zd1,zd2,zd3,zd4,zd5,zd6,zc5,zc6,zd7,zd8,zd9,zea,zeb,zec,zed,zc7,zc8,zee,zhd,zhe,zc9,zda,zdb,zdc,zdd,zde,zfT,zfU,zfV,zef,zeg,zdf,zdg,zdh,zdi,zeh,zei,zfW,zfX,zfY,zdj,zdk,zdl,zdm,zdn,zfZ,zej,zdo,zek,zf0,zf1,zdp,zdq,zdr,zel,zem,zen,zeo,zds,zdt,zdu,zf2,zf3,zep,zf4,zeq,zf5,zf6,zf7,zf8,zf9,zga,zer,zgb,zgc,zgd,zes,zge,zet,zeu,zgf,zev,zgg,zgh,zgi,zew,zgj,zgk,zgl,zgm,zgn,zgo,zex,zgp,zey,zez,zeA,zeB,zeC,zeD,zdv,zeE,zhf,zgq,zeF,zgr,zeG,zgs,zgt,zgu,zgv,zgw,zgx,zeH,zeI,zeJ,zgy,zgz,zeK,zgA,zeL,zeM,zgB,zgC,zhg,za8,zbM,zce,zbN,zcP,zbo,zbO,zbp,zbP,zal,zbq,zbr,zae,zbs,zbt,zbu,zcf,zbQ,za9,zbv,zbw,zaM,zba,zaU,zcz,zaz,zcg,zaq,zaV,zbR,zch,zbb,zbc,zbS,zbx,zaA,zbT,zbU,zci,zbd,zaf,zar,zas,zaa,zat,zaB,zaW,zbe,zbV,zcj,zbW,zcQ,zby,zbX,zbz,zbY,zam,zbA,zbB,zag,zbC,zbD,zbE,zck,zbZ,zbf,zbF,zbG,zaN,zbg,zaX,zcA,zaC,zcl,zau,zaY,zb0,zcm,zbh,zbi,zb1,zbH,zaD,zb2,zb3,zcn,zbj,zah,zav,zaw,zab,zax,zaE,zaZ,za0,za1,zai,zaj,zb4,zb5,zbk,zb6,zbI,zbJ,zco,zaF,zcR,za2,zaG,zan,za3,zaH,zay,zaO,zak,zaI,zaJ,zac,zaK,zaP,zbl,zb7,zdw,zdx,zcB,za4,zbm,zcS,zdy,zdz,zcC,zdA,zeN,zeO,zdB,zdC,zgD,zeP,zeQ,zgE,zeR,zeS,zgF,zgG,zgH,zgI,zgJ,zeT,zeU,zeV,zeW,zeX,zgK,zeY,zeZ,ze0,ze1,ze2,ze3,zgL,zgM,zgN,ze4,zdD,zgO,ze5,ze6,ze7,zgP,zgQ,zgR,zgS,ze8,zgT,ze9,zfa,zfb,zfc,zfd,zfe,zff,zdE,zcT,zcU,zcV,zcD,zcE,zfg,zfh,zfi,zfj,zfk,zgU,zfl,zfm,zfn,zgV,zgW,zgX,zgY,zgZ,zfo,zfp,zfq,zfr,zg0,zg1,zg2,zg3,zfs,zft,zg4,zfu,zfv,zfw,zfx,zfy,zdF,zfz,zfA,zfB,zfC,zfD,zg5,zfE,zg6,zg7,zg8,zg9,zha,zhb,zfF,zfG,zfH,zfI,zhc,zfJ,zfK,zfL,zfM,zfN,zb8,zcF,zcW,zcG,zfO,zcp,zcH,zcq,zcI,zaL,zcr,zcs,zao,zct,zcu,zcv,zcX,zcJ,zb9,zcw,zcx,zbn,zca,zbK,zdG,za5,zcY,zaQ,zbL,zcK,zcZ,zcb,zcc,zcL,zcy,za6,zcM,zcN,zc0,zcd,zap,zaR,zaS,zad,zaT,za7,F_FlowRun_go,if_true,if_false,zhh,zhi,cond_true,cond_false,List.zip,List.zipWith,List.length_cons,List.length_nil,Option.isSome_some,Bool.false_eq_true,reduceIte,reduceCtorEq,Nat.reduceEqDiff,Nat.reduceAdd,Nat.reduceLeDiff,Int.cast_ofNat_Int,decide_true,decide_false,Bool.and_true,Bool.true_and,Bool.and_false,Bool.false_and,Int.sub_zero,Int.reduceNeg,Nat.reduceLT,and_self,and_true,true_and,Bool.false_or,Bool.or_false,Bool.true_or,Bool.or_true,Bool.not_true,Bool.not_false,Int.natAbs_neg,Int.reduceSub,Int.reduceAdd,Int.reduceToNat,Int.natAbs_zero,Int.natAbs_one,Int.reduceLT,Int.reduceLE,Int.reduceGE,Int.reduceGT,decide_eq_true_eq,List.getElem?_cons_zero,List.getElem?_cons_succ,Nat.reduceSub,Int.reduceMul,Nat.reduceBEq,Nat.reducePow,Int.reducePow,and_false,false_and,eq_self,zc1,zcO _ _ zcB,IX,lim,t.pile,n1,pi]
theorem fornext_ok (h : St G A p s H) (f : RFix G A F) (l i : Int) (hp : s.pile = .f l) (hi : 0 ≤ i ∧ i < 100) : ∀ n d : Nat, (ev (PgC lf1 lg1) (n + 160) (d + 10)).c (.fn 25827988142192687220) [.ref A.co, .str 329, .int i, .bm A.r 196254634976314992399582029673955626514985301736485678804054381246074043110747630893076508655744927424386047964531, .fn 26477335546137898854] H =
    some (.tup [.int (i + 1), if l < i + 1 then .none else .int 1], (H.new (.list (pmv (if l < i + 1 then .e else .f l)))).upd A.cd (ctl H.next)) := by
  intro n d
  rw [ec_fn, callF_ _ _ _ zbw rfl rfl]
  have t := h.at f
  have n1 := fnd_f l (h.pl hp)
  have n2 := plus_ok h f i 1 (by omega) (by omega)
  have pi := h.pl hp
  have o1 : okFn (PgC lf1 lg1) (.bm A.r 196254634976314992399582029673955626514985301736485678804054381246074043110747630893076508655744927424386047964531) = true := rfl
  simp only [pmv, forV] at pi
  by_cases q : l < i + 1
  · have n3 : ∀ n d : Nat, (ev (PgC lf1 lg1) (n + 40) (d + 2)).c (.fn 390831091446895) [.ref A.co, .int 0] H = some (.none, (H.new (.list (pmv .e))).upd A.cd (ctl H.next)) := cut_ok h f .e 0 (by rw [hp]; rfl)
    rw [if_pos q, if_pos q]
    simp only [zdH,zdI,zdJ,zdK,zdL,zdM,zdN,zdO,zdP,zdQ,zc2,zdR,zdS,zdT,zdU,zc3,zdV,zdW,zdX,zdY,zc4,zfP,zfQ,zfR,zfS,zdZ,zd0,zd1,zd2,zd3,zd4,zd5,zd6,zc5,zc6,zd7,zd8,zd9,zea,zeb,zec,zed,zc7,zc8,zee,zhd,zhe,zc9,zda,zdb,zdc,zdd,zde,zfT,zfU,zfV,zef,zeg,zdf,zdg,zdh,zdi,zeh,zei,zfW,zfX,zfY,zdj,zdk,zdl,zdm,zdn,zfZ,zej,zdo,zek,zf0,zf1,zdp,zdq,zdr,zel,zem,zen,zeo,zds,zdt,zdu,zf2,zf3,zep,zf4,zeq,zf5,zf6,zf7,zf8,zf9,zga,zer,zgb,zgc,zgd,zes,zge,zet,zeu,zgf,zev,zgg,zgh,zgi,zew,zgj,zgk,zgl,zgm,zgn,zgo,zex,zgp,zey,zez,zeA,zeB,zeC,zeD,zdv,zeE,zhf,zgq,zeF,zgr,zeG,zgs,zgt,zgu,zgv,zgw,zgx,zeH,zeI,zeJ,zgy,zgz,zeK,zgA,zeL,zeM,zgB,zgC,zhg,za8,zbM,zce,zbN,zcP,zbo,zbO,zbp,zbP,zal,zbq,zbr,zae,zbs,zbt,zbu,zcf,zbQ,za9,zbv,zbw,zaM,zba,zaU,zcz,zaz,zcg,zaq,zaV,zbR,zch,zbb,zbc,zbS,zbx,zaA,zbT,zbU,zci,zbd,zaf,zar,zas,zaa,zat,zaB,zaW,zbe,zbV,zcj,zbW,zcQ,zby,zbX,zbz,zbY,zam,zbA,zbB,zag,zbC,zbD,zbE,zck,zbZ,zbf,zbF,zbG,zaN,zbg,zaX,zcA,zaC,zcl,zau,zaY,zb0,zcm,zbh,zbi,zb1,zbH,zaD,zb2,zb3,zcn,zbj,zah,zav,zaw,zab,zax,zaE,zaZ,za0,za1,zai,zaj,zb4,zb5,zbk,zb6,zbI,zbJ,zco,zaF,zcR,za2,zaG,zan,za3,zaH,zay,zaO,zak,zaI,zaJ,zac,zaK,zaP,zbl,zb7,zdw,zdx,zcB,za4,zbm,zcS,zdy,zdz,zcC,zdA,zeN,zeO,zdB,zdC,zgD,zeP,zeQ,zgE,zeR,zeS,zgF,zgG,zgH,zgI,zgJ,zeT,zeU,zeV,zeW,zeX,zgK,zeY,zeZ,ze0,ze1,ze2,ze3,zgL,zgM,zgN,ze4,zdD,zgO,ze5,ze6,ze7,zgP,zgQ,zgR,zgS,ze8,zgT,ze9,zfa,zfb,zfc,zfd,zfe,zff,zdE,zcT,zcU,zcV,zcD,zcE,zfg,zfh,zfi,zfj,zfk,zgU,zfl,zfm,zfn,zgV,zgW,zgX,zgY,zgZ,zfo,zfp,zfq,zfr,zg0,zg1,zg2,zg3,zfs,zft,zg4,zfu,zfv,zfw,zfx,zfy,zdF,zfz,zfA,zfB,zfC,zfD,zg5,zfE,zg6,zg7,zg8,zg9,zha,zhb,zfF,zfG,zfH,zfI,zhc,zfJ,zfK,zfL,zfM,zfN,zb8,zcF,zcW,zcG,zfO,zcp,zcH,zcq,zcI,zaL,zcr,zcs,zao,zct,zcu,zcv,zcX,zcJ,zb9,zcw,zcx,zbn,zca,zbK,zdG,za5,zcY,zaQ,zbL,zcK,zcZ,zcb,zcc,zcL,zcy,za6,zcM,zcN,zc0,zcd,zap,zaR,zaS,zad,zaT,za7,F_FlowRun_go,if_true,if_false,zhh,zhi,cond_true,cond_false,List.zip,List.zipWith,List.length_cons,List.length_nil,Option.isSome_some,Bool.false_eq_true,reduceIte,reduceCtorEq,Nat.reduceEqDiff,Nat.reduceAdd,Nat.reduceLeDiff,Int.cast_ofNat_Int,decide_true,decide_false,Bool.and_true,Bool.true_and,Bool.and_false,Bool.false_and,Int.sub_zero,Int.reduceNeg,Nat.reduceLT,and_self,and_true,true_and,Bool.false_or,Bool.or_false,Bool.true_or,Bool.or_true,Bool.not_true,Bool.not_false,Int.natAbs_neg,Int.reduceSub,Int.reduceAdd,Int.reduceToNat,Int.natAbs_zero,Int.natAbs_one,Int.reduceLT,Int.reduceLE,Int.reduceGE,Int.reduceGT,decide_eq_true_eq,List.getElem?_cons_zero,List.getElem?_cons_succ,Nat.reduceSub,Int.reduceMul,Nat.reduceBEq,Nat.reducePow,Int.reducePow,and_false,false_and,eq_self,zc1,zcO _ _ zcB,IX,lim,t.pile,n1,pi,o1,n2,past_ok,q,n3]
  · have n3 : ∀ n d : Nat, (ev (PgC lf1 lg1) (n + 40) (d + 2)).c (.fn 390831091446895) [.ref A.co, .int 1] H = some (.none, (H.new (.list (pmv (.f l)))).upd A.cd (ctl H.next)) := cut_ok h f (.f l) 1 (by rw [hp]; rfl)
    rw [if_neg q, if_neg q]
    simp only [zdH,zdI,zdJ,zdK,zdL,zdM,zdN,zdO,zdP,zdQ,zc2,zdR,zdS,zdT,zdU,zc3,zdV,zdW,zdX,zdY,zc4,zfP,zfQ,zfR,zfS,zdZ,zd0,zd1,zd2,zd3,zd4,zd5,zd6,zc5,zc6,zd7,zd8,zd9,zea,zeb,zec,zed,zc7,zc8,zee,zhd,zhe,zc9,zda,zdb,zdc,zdd,zde,zfT,zfU,zfV,zef,zeg,zdf,zdg,zdh,zdi,zeh,zei,zfW,zfX,zfY,zdj,zdk,zdl,zdm,zdn,zfZ,zej,zdo,zek,zf0,zf1,zdp,zdq,zdr,zel,zem,zen,zeo,zds,zdt,zdu,zf2,zf3,zep,zf4,zeq,zf5,zf6,zf7,zf8,zf9,zga,zer,zgb,zgc,zgd,zes,zge,zet,zeu,zgf,zev,zgg,zgh,zgi,zew,zgj,zgk,zgl,zgm,zgn,zgo,zex,zgp,zey,zez,zeA,zeB,zeC,zeD,zdv,zeE,zhf,zgq,zeF,zgr,zeG,zgs,zgt,zgu,zgv,zgw,zgx,zeH,zeI,zeJ,zgy,zgz,zeK,zgA,zeL,zeM,zgB,zgC,zhg,za8,zbM,zce,zbN,zcP,zbo,zbO,zbp,zbP,zal,zbq,zbr,zae,zbs,zbt,zbu,zcf,zbQ,za9,zbv,zbw,zaM,zba,zaU,zcz,zaz,zcg,zaq,zaV,zbR,zch,zbb,zbc,zbS,zbx,zaA,zbT,zbU,zci,zbd,zaf,zar,zas,zaa,zat,zaB,zaW,zbe,zbV,zcj,zbW,zcQ,zby,zbX,zbz,zbY,zam,zbA,zbB,zag,zbC,zbD,zbE,zck,zbZ,zbf,zbF,zbG,zaN,zbg,zaX,zcA,zaC,zcl,zau,zaY,zb0,zcm,zbh,zbi,zb1,zbH,zaD,zb2,zb3,zcn,zbj,zah,zav,zaw,zab,zax,zaE,zaZ,za0,za1,zai,zaj,zb4,zb5,zbk,zb6,zbI,zbJ,zco,zaF,zcR,za2,zaG,zan,za3,zaH,zay,zaO,zak,zaI,zaJ,zac,zaK,zaP,zbl,zb7,zdw,zdx,zcB,za4,zbm,zcS,zdy,zdz,zcC,zdA,zeN,zeO,zdB,zdC,zgD,zeP,zeQ,zgE,zeR,zeS,zgF,zgG,zgH,zgI,zgJ,zeT,zeU,zeV,zeW,zeX,zgK,zeY,zeZ,ze0,ze1,ze2,ze3,zgL,zgM,zgN,ze4,zdD,zgO,ze5,ze6,ze7,zgP,zgQ,zgR,zgS,ze8,zgT,ze9,zfa,zfb,zfc,zfd,zfe,zff,zdE,zcT,zcU,zcV,zcD,zcE,zfg,zfh,zfi,zfj,zfk,zgU,zfl,zfm,zfn,zgV,zgW,zgX,zgY,zgZ,zfo,zfp,zfq,zfr,zg0,zg1,zg2,zg3,zfs,zft,zg4,zfu,zfv,zfw,zfx,zfy,zdF,zfz,zfA,zfB,zfC,zfD,zg5,zfE,zg6,zg7,zg8,zg9,zha,zhb,zfF,zfG,zfH,zfI,zhc,zfJ,zfK,zfL,zfM,zfN,zb8,zcF,zcW,zcG,zfO,zcp,zcH,zcq,zcI,zaL,zcr,zcs,zao,zct,zcu,zcv,zcX,zcJ,zb9,zcw,zcx,zbn,zca,zbK,zdG,za5,zcY,zaQ,zbL,zcK,zcZ,zcb,zcc,zcL,zcy,za6,zcM,zcN,zc0,zcd,zap,zaR,zaS,zad,zaT,za7,F_FlowRun_go,if_true,if_false,zhh,zhi,cond_true,cond_false,List.zip,List.zipWith,List.length_cons,List.length_nil,Option.isSome_some,Bool.false_eq_true,reduceIte,reduceCtorEq,Nat.reduceEqDiff,Nat.reduceAdd,Nat.reduceLeDiff,Int.cast_ofNat_Int,decide_true,decide_false,Bool.and_true,Bool.true_and,Bool.and_false,Bool.false_and,Int.sub_zero,Int.reduceNeg,Nat.reduceLT,and_self,and_true,true_and,Bool.false_or,Bool.or_false,Bool.true_or,Bool.or_true,Bool.not_true,Bool.not_false,Int.natAbs_neg,Int.reduceSub,Int.reduceAdd,Int.reduceToNat,Int.natAbs_zero,Int.natAbs_one,Int.reduceLT,Int.reduceLE,Int.reduceGE,Int.reduceGT,decide_eq_true_eq,List.getElem?_cons_zero,List.getElem?_cons_succ,Nat.reduceSub,Int.reduceMul,Nat.reduceBEq,Nat.reducePow,Int.reducePow,and_false,false_and,eq_self,zc1,zcO _ _ zcB,IX,lim,t.pile,n1,pi,o1,n2,past_ok,q,n3]
noncomputable abbrev LWb (A : RA) (p : Nat) : Loc := [(100046136923025260, .ref A.co), (1582366286693, .int 3), (6180924517, .ref p)]
noncomputable def spE : MX := .loc 90484
noncomputable def spI : MX := .call (.glb 1590772524901) [.call (.glb 25827140487513861990) [.loc 6180924517], .call (.glb 23881070) [.loc 6180924517]]
noncomputable def spT : MX := .cmp (.sub (.loc 6180924517) (.loc 90484)) .eq (.tup [.cst (.str 1474386545733), .loc 1582366286693])
theorem spots_e (hp : H.get p = some (.list (pmv .e))) : ∀ n d, evC (PgC lf1 lg1) (ev (PgC lf1 lg1) (n + 120) (d + 4)) spE (.one 90484) spI [spT] (LWb A p) H = some (.ref H.next, H.new (.list [])) := by
  intro n d
  have n1 := floor_e hp
  have eI : evI (PgC lf1 lg1) (ev (PgC lf1 lg1) (n + 120) (d + 4)) spI (LWb A p) H = some (.rng 0 1 0, H) := by
    rw [spI, zcO _ _ zcB]
    simp only [pmv] at hp
    simp only [zdH,zdI,zdJ,zdK,zdL,zdM,zdN,zdO,zdP,zdQ,zc2,zdR,zdS,zdT,zdU,zc3,zdV,zdW,zdX,zdY,zc4,zfP,zfQ,zfR,zfS,zdZ,zd0,zd1,zd2,zd3,zd4,zd5,zd6,zc5,zc6,zd7,zd8,zd9,zea,zeb,zec,zed,zc7,zc8,zee,zhd,zhe,zc9,zda,zdb,zdc,zdd,zde,zfT,zfU,zfV,zef,zeg,zdf,zdg,zdh,zdi,zeh,zei,zfW,zfX,zfY,zdj,zdk,zdl,zdm,zdn,zfZ,zej,zdo,zek,zf0,zf1,zdp,zdq,zdr,zel,zem,zen,zeo,zds,zdt,zdu,zf2,zf3,zep,zf4,zeq,zf5,zf6,zf7,zf8,zf9,zga,zer,zgb,zgc,zgd,zes,zge,zet,zeu,zgf,zev,zgg,zgh,zgi,zew,zgj,zgk,zgl,zgm,zgn,zgo,zex,zgp,zey,zez,zeA,zeB,zeC,zeD,zdv,zeE,zhf,zgq,zeF,zgr,zeG,zgs,zgt,zgu,zgv,zgw,zgx,zeH,zeI,zeJ,zgy,zgz,zeK,zgA,zeL,zeM,zgB,zgC,zhg,za8,zbM,zce,zbN,zcP,zbo,zbO,zbp,zbP,zal,zbq,zbr,zae,zbs,zbt,zbu,zcf,zbQ,za9,zbv,zbw,zaM,zba,zaU,zcz,zaz,zcg,zaq,zaV,zbR,zch,zbb,zbc,zbS,zbx,zaA,zbT,zbU,zci,zbd,zaf,zar,zas,zaa,zat,zaB,zaW,zbe,zbV,zcj,zbW,zcQ,zby,zbX,zbz,zbY,zam,zbA,zbB,zag,zbC,zbD,zbE,zck,zbZ,zbf,zbF,zbG,zaN,zbg,zaX,zcA,zaC,zcl,zau,zaY,zb0,zcm,zbh,zbi,zb1,zbH,zaD,zb2,zb3,zcn,zbj,zah,zav,zaw,zab,zax,zaE,zaZ,za0,za1,zai,zaj,zb4,zb5,zbk,zb6,zbI,zbJ,zco,zaF,zcR,za2,zaG,zan,za3,zaH,zay,zaO,zak,zaI,zaJ,zac,zaK,zaP,zbl,zb7,zdw,zdx,zcB,za4,zbm,zcS,zdy,zdz,zcC,zdA,zeN,zeO,zdB,zdC,zgD,zeP,zeQ,zgE,zeR,zeS,zgF,zgG,zgH,zgI,zgJ,zeT,zeU,zeV,zeW,zeX,zgK,zeY,zeZ,ze0,ze1,ze2,ze3,zgL,zgM,zgN,ze4,zdD,zgO,ze5,ze6,ze7,zgP,zgQ,zgR,zgS,ze8,zgT,ze9,zfa,zfb,zfc,zfd,zfe,zff,zdE,zcT,zcU,zcV,zcD,zcE,zfg,zfh,zfi,zfj,zfk,zgU,zfl,zfm,zfn,zgV,zgW,zgX,zgY,zgZ,zfo,zfp,zfq,zfr,zg0,zg1,zg2,zg3,zfs,zft,zg4,zfu,zfv,zfw,zfx,zfy,zdF,zfz,zfA,zfB,zfC,zfD,zg5,zfE,zg6,zg7,zg8,zg9,zha,zhb,zfF,zfG,zfH,zfI,zhc,zfJ,zfK,zfL,zfM,zfN,zb8,zcF,zcW,zcG,zfO,zcp,zcH,zcq,zcI,zaL,zcr,zcs,zao,zct,zcu,zcv,zcX,zcJ,zb9,zcw,zcx,zbn,zca,zbK,zdG,za5,zcY,zaQ,zbL,zcK,zcZ,zcb,zcc,zcL,zcy,za6,zcM,zcN,zc0,zcd,zap,zaR,zaS,zad,zaT,za7,F_FlowRun_go,if_true,if_false,zhh,zhi,cond_true,cond_false,List.zip,List.zipWith,List.length_cons,List.length_nil,Option.isSome_some,Bool.false_eq_true,reduceIte,reduceCtorEq,Nat.reduceEqDiff,Nat.reduceAdd,Nat.reduceLeDiff,Int.cast_ofNat_Int,decide_true,decide_false,Bool.and_true,Bool.true_and,Bool.and_false,Bool.false_and,Int.sub_zero,Int.reduceNeg,Nat.reduceLT,and_self,and_true,true_and,Bool.false_or,Bool.or_false,Bool.true_or,Bool.or_true,Bool.not_true,Bool.not_false,Int.natAbs_neg,Int.reduceSub,Int.reduceAdd,Int.reduceToNat,Int.natAbs_zero,Int.natAbs_one,Int.reduceLT,Int.reduceLE,Int.reduceGE,Int.reduceGT,decide_eq_true_eq,List.getElem?_cons_zero,List.getElem?_cons_succ,Nat.reduceSub,Int.reduceMul,Nat.reduceBEq,Nat.reducePow,Int.reducePow,and_false,false_and,eq_self,zc1,zcO _ _ zcB,IX,lim,n1,hp,Nat.zero_le,Int.natAbs_zero,Int.toNat_zero]
  unfold evC
  rw [eI, zdH]
  rfl
theorem spots_w (hp : H.get p = some (.list (pmv .w))) : ∀ n d, evC (PgC lf1 lg1) (ev (PgC lf1 lg1) (n + 120) (d + 4)) spE (.one 90484) spI [spT] (LWb A p) H = some (.ref H.next, H.new (.list [.int 0])) := by
  intro n d
  have n1 := floor_w hp
  have eI : evI (PgC lf1 lg1) (ev (PgC lf1 lg1) (n + 120) (d + 4)) spI (LWb A p) H = some (.rng 0 1 1, H) := by
    rw [spI, zcO _ _ zcB]
    simp only [pmv] at hp
    simp only [zdH,zdI,zdJ,zdK,zdL,zdM,zdN,zdO,zdP,zdQ,zc2,zdR,zdS,zdT,zdU,zc3,zdV,zdW,zdX,zdY,zc4,zfP,zfQ,zfR,zfS,zdZ,zd0,zd1,zd2,zd3,zd4,zd5,zd6,zc5,zc6,zd7,zd8,zd9,zea,zeb,zec,zed,zc7,zc8,zee,zhd,zhe,zc9,zda,zdb,zdc,zdd,zde,zfT,zfU,zfV,zef,zeg,zdf,zdg,zdh,zdi,zeh,zei,zfW,zfX,zfY,zdj,zdk,zdl,zdm,zdn,zfZ,zej,zdo,zek,zf0,zf1,zdp,zdq,zdr,zel,zem,zen,zeo,zds,zdt,zdu,zf2,zf3,zep,zf4,zeq,zf5,zf6,zf7,zf8,zf9,zga,zer,zgb,zgc,zgd,zes,zge,zet,zeu,zgf,zev,zgg,zgh,zgi,zew,zgj,zgk,zgl,zgm,zgn,zgo,zex,zgp,zey,zez,zeA,zeB,zeC,zeD,zdv,zeE,zhf,zgq,zeF,zgr,zeG,zgs,zgt,zgu,zgv,zgw,zgx,zeH,zeI,zeJ,zgy,zgz,zeK,zgA,zeL,zeM,zgB,zgC,zhg,za8,zbM,zce,zbN,zcP,zbo,zbO,zbp,zbP,zal,zbq,zbr,zae,zbs,zbt,zbu,zcf,zbQ,za9,zbv,zbw,zaM,zba,zaU,zcz,zaz,zcg,zaq,zaV,zbR,zch,zbb,zbc,zbS,zbx,zaA,zbT,zbU,zci,zbd,zaf,zar,zas,zaa,zat,zaB,zaW,zbe,zbV,zcj,zbW,zcQ,zby,zbX,zbz,zbY,zam,zbA,zbB,zag,zbC,zbD,zbE,zck,zbZ,zbf,zbF,zbG,zaN,zbg,zaX,zcA,zaC,zcl,zau,zaY,zb0,zcm,zbh,zbi,zb1,zbH,zaD,zb2,zb3,zcn,zbj,zah,zav,zaw,zab,zax,zaE,zaZ,za0,za1,zai,zaj,zb4,zb5,zbk,zb6,zbI,zbJ,zco,zaF,zcR,za2,zaG,zan,za3,zaH,zay,zaO,zak,zaI,zaJ,zac,zaK,zaP,zbl,zb7,zdw,zdx,zcB,za4,zbm,zcS,zdy,zdz,zcC,zdA,zeN,zeO,zdB,zdC,zgD,zeP,zeQ,zgE,zeR,zeS,zgF,zgG,zgH,zgI,zgJ,zeT,zeU,zeV,zeW,zeX,zgK,zeY,zeZ,ze0,ze1,ze2,ze3,zgL,zgM,zgN,ze4,zdD,zgO,ze5,ze6,ze7,zgP,zgQ,zgR,zgS,ze8,zgT,ze9,zfa,zfb,zfc,zfd,zfe,zff,zdE,zcT,zcU,zcV,zcD,zcE,zfg,zfh,zfi,zfj,zfk,zgU,zfl,zfm,zfn,zgV,zgW,zgX,zgY,zgZ,zfo,zfp,zfq,zfr,zg0,zg1,zg2,zg3,zfs,zft,zg4,zfu,zfv,zfw,zfx,zfy,zdF,zfz,zfA,zfB,zfC,zfD,zg5,zfE,zg6,zg7,zg8,zg9,zha,zhb,zfF,zfG,zfH,zfI,zhc,zfJ,zfK,zfL,zfM,zfN,zb8,zcF,zcW,zcG,zfO,zcp,zcH,zcq,zcI,zaL,zcr,zcs,zao,zct,zcu,zcv,zcX,zcJ,zb9,zcw,zcx,zbn,zca,zbK,zdG,za5,zcY,zaQ,zbL,zcK,zcZ,zcb,zcc,zcL,zcy,za6,zcM,zcN,zc0,zcd,zap,zaR,zaS,zad,zaT,za7,F_FlowRun_go,if_true,if_false,zhh,zhi,cond_true,cond_false,List.zip,List.zipWith,List.length_cons,List.length_nil,Option.isSome_some,Bool.false_eq_true,reduceIte,reduceCtorEq,Nat.reduceEqDiff,Nat.reduceAdd,Nat.reduceLeDiff,Int.cast_ofNat_Int,decide_true,decide_false,Bool.and_true,Bool.true_and,Bool.and_false,Bool.false_and,Int.sub_zero,Int.reduceNeg,Nat.reduceLT,and_self,and_true,true_and,Bool.false_or,Bool.or_false,Bool.true_or,Bool.or_true,Bool.not_true,Bool.not_false,Int.natAbs_neg,Int.reduceSub,Int.reduceAdd,Int.reduceToNat,Int.natAbs_zero,Int.natAbs_one,Int.reduceLT,Int.reduceLE,Int.reduceGE,Int.reduceGT,decide_eq_true_eq,List.getElem?_cons_zero,List.getElem?_cons_succ,Nat.reduceSub,Int.reduceMul,Nat.reduceBEq,Nat.reducePow,Int.reducePow,and_false,false_and,eq_self,zc1,zcO _ _ zcB,IX,lim,n1,hp,Nat.zero_le,Int.natAbs_zero,Int.toNat_one]
  have eT : (ev (PgC lf1 lg1) (n + 119) (d + 4)).t spT (LWb A p ++ [(90484, .int 0)]) H = some (true, H) := by
    rw [spT]
    simp only [pmv] at hp
    simp only [zdH,zdI,zdJ,zdK,zdL,zdM,zdN,zdO,zdP,zdQ,zc2,zdR,zdS,zdT,zdU,zc3,zdV,zdW,zdX,zdY,zc4,zfP,zfQ,zfR,zfS,zdZ,zd0,zd1,zd2,zd3,zd4,zd5,zd6,zc5,zc6,zd7,zd8,zd9,zea,zeb,zec,zed,zc7,zc8,zee,zhd,zhe,zc9,zda,zdb,zdc,zdd,zde,zfT,zfU,zfV,zef,zeg,zdf,zdg,zdh,zdi,zeh,zei,zfW,zfX,zfY,zdj,zdk,zdl,zdm,zdn,zfZ,zej,zdo,zek,zf0,zf1,zdp,zdq,zdr,zel,zem,zen,zeo,zds,zdt,zdu,zf2,zf3,zep,zf4,zeq,zf5,zf6,zf7,zf8,zf9,zga,zer,zgb,zgc,zgd,zes,zge,zet,zeu,zgf,zev,zgg,zgh,zgi,zew,zgj,zgk,zgl,zgm,zgn,zgo,zex,zgp,zey,zez,zeA,zeB,zeC,zeD,zdv,zeE,zhf,zgq,zeF,zgr,zeG,zgs,zgt,zgu,zgv,zgw,zgx,zeH,zeI,zeJ,zgy,zgz,zeK,zgA,zeL,zeM,zgB,zgC,zhg,za8,zbM,zce,zbN,zcP,zbo,zbO,zbp,zbP,zal,zbq,zbr,zae,zbs,zbt,zbu,zcf,zbQ,za9,zbv,zbw,zaM,zba,zaU,zcz,zaz,zcg,zaq,zaV,zbR,zch,zbb,zbc,zbS,zbx,zaA,zbT,zbU,zci,zbd,zaf,zar,zas,zaa,zat,zaB,zaW,zbe,zbV,zcj,zbW,zcQ,zby,zbX,zbz,zbY,zam,zbA,zbB,zag,zbC,zbD,zbE,zck,zbZ,zbf,zbF,zbG,zaN,zbg,zaX,zcA,zaC,zcl,zau,zaY,zb0,zcm,zbh,zbi,zb1,zbH,zaD,zb2,zb3,zcn,zbj,zah,zav,zaw,zab,zax,zaE,zaZ,za0,za1,zai,zaj,zb4,zb5,zbk,zb6,zbI,zbJ,zco,zaF,zcR,za2,zaG,zan,za3,zaH,zay,zaO,zak,zaI,zaJ,zac,zaK,zaP,zbl,zb7,zdw,zdx,zcB,za4,zbm,zcS,zdy,zdz,zcC,zdA,zeN,zeO,zdB,zdC,zgD,zeP,zeQ,zgE,zeR,zeS,zgF,zgG,zgH,zgI,zgJ,zeT,zeU,zeV,zeW,zeX,zgK,zeY,zeZ,ze0,ze1,ze2,ze3,zgL,zgM,zgN,ze4,zdD,zgO,ze5,ze6,ze7,zgP,zgQ,zgR,zgS,ze8,zgT,ze9,zfa,zfb,zfc,zfd,zfe,zff,zdE,zcT,zcU,zcV,zcD,zcE,zfg,zfh,zfi,zfj,zfk,zgU,zfl,zfm,zfn,zgV,zgW,zgX,zgY,zgZ,zfo,zfp,zfq,zfr,zg0,zg1,zg2,zg3,zfs,zft,zg4,zfu,zfv,zfw,zfx,zfy,zdF,zfz,zfA,zfB,zfC,zfD,zg5,zfE,zg6,zg7,zg8,zg9,zha,zhb,zfF,zfG,zfH,zfI,zhc,zfJ,zfK,zfL,zfM,zfN,zb8,zcF,zcW,zcG,zfO,zcp,zcH,zcq,zcI,zaL,zcr,zcs,zao,zct,zcu,zcv,zcX,zcJ,zb9,zcw,zcx,zbn,zca,zbK,zdG,za5,zcY,zaQ,zbL,zcK,zcZ,zcb,zcc,zcL,zcy,za6,zcM,zcN,zc0,zcd,zap,zaR,zaS,zad,zaT,za7,F_FlowRun_go,if_true,if_false,zhh,zhi,cond_true,cond_false,List.zip,List.zipWith,List.length_cons,List.length_nil,Option.isSome_some,Bool.false_eq_true,reduceIte,reduceCtorEq,Nat.reduceEqDiff,Nat.reduceAdd,Nat.reduceLeDiff,Int.cast_ofNat_Int,decide_true,decide_false,Bool.and_true,Bool.true_and,Bool.and_false,Bool.false_and,Int.sub_zero,Int.reduceNeg,Nat.reduceLT,and_self,and_true,true_and,Bool.false_or,Bool.or_false,Bool.true_or,Bool.or_true,Bool.not_true,Bool.not_false,Int.natAbs_neg,Int.reduceSub,Int.reduceAdd,Int.reduceToNat,Int.natAbs_zero,Int.natAbs_one,Int.reduceLT,Int.reduceLE,Int.reduceGE,Int.reduceGT,decide_eq_true_eq,List.getElem?_cons_zero,List.getElem?_cons_succ,Nat.reduceSub,Int.reduceMul,Nat.reduceBEq,Nat.reducePow,Int.reducePow,and_false,false_and,eq_self,zc1,zcO _ _ zcB,IX,lim,LWb,List.cons_append,List.nil_append,hp]
  unfold evC
  rw [eI, zdH]
  refine (if_pos rfl).trans ?_
  show (((put (PgC lf1 lg1) (ev (PgC lf1 lg1) (n + 119) (d + 4)) (.nam 90484) (.int 0) (LWb A p) H).bind fun q => (tests (ev (PgC lf1 lg1) (n + 119) (d + 4)) [spT] q.1 q.2).bind (ktk (ev (PgC lf1 lg1) (n + 119) (d + 4)) spE (fun a h => (ev (PgC lf1 lg1) (n + 119) (d + 4)).k spE (.one 90484) [spT] (.rng 1 1 0) a q.1 h) [] q.1)).bind knl) = _
  rw [zdf, zdH]
  show ((((ev (PgC lf1 lg1) (n + 119) (d + 4)).t spT (LWb A p ++ [(90484, .int 0)]) H).bind (kte (tests (ev (PgC lf1 lg1) (n + 119) (d + 4)) []) (LWb A p ++ [(90484, .int 0)]))).bind (ktk (ev (PgC lf1 lg1) (n + 119) (d + 4)) spE (fun a h => (ev (PgC lf1 lg1) (n + 119) (d + 4)).k spE (.one 90484) [spT] (.rng 1 1 0) a (LWb A p ++ [(90484, .int 0)]) h) [] (LWb A p ++ [(90484, .int 0)]))).bind knl = _
  rw [eT]
  rfl
theorem wbeg_ok (h : St G A p s H) (f : RFix G A F) (hp : s.pile = .e ∨ s.pile = .w) : ∃ H', Sx G A { s with pile := .w } H' ∧ ∀ n d : Nat, (ev (PgC lf1 lg1) (n + 160) (d + 6)).c (.fn 453840253188586128076663150) [.ref A.co, .int 3] H = some (.none, H') := by
  have t := h.at f
  rcases hp with hp | hp
  · have h2 := (h.grow (.list [])).grow (.list [])
    have pi := h.pl hp
    have sp := spots_e (A := A) pi
    have hn : ¬ (H.next = H.next + 1) := by omega
    have n2 := put_ok h2 f .w (.tup [.str 1474386545733, .int 3]) (by rw [hp]; rfl) (by rw [hp]; decide)
    refine ⟨_, ⟨p, h2.push .w⟩, fun n d => ?_⟩
    rw [ec_fn, callF_ _ _ _ zaM rfl rfl]
    have sp := sp (n + 37) (d + 1)
    simp only [spE, spI, spT, LWb] at sp
    have q1 : ((H.new (.list [])).new (.list [])).get H.next = some (.list []) := (new_ne _ _ _ (by show H.next ≠ H.next + 1; omega)).trans (new_eq _ _)
    have q2 : ((H.new (.list [])).new (.list [])).get (H.next + 1) = some (.list []) := new_eq (H.new (.list [])) _
    have q3 : (H.new (.list [])).next = H.next + 1 := rfl
    simp only [zdH,zdI,zdJ,zdK,zdL,zdM,zdN,zdO,zdP,zdQ,zc2,zdR,zdS,zdT,zdU,zc3,zdV,zdW,zdX,zdY,zc4,zfP,zfQ,zfR,zfS,zdZ,zd0,zd1,zd2,zd3,zd4,zd5,zd6,zc5,zc6,zd7,zd8,zd9,zea,zeb,zec,zed,zc7,zc8,zee,zhd,zhe,zc9,zda,zdb,zdc,zdd,zde,zfT,zfU,zfV,zef,zeg,zdf,zdg,zdh,zdi,zeh,zei,zfW,zfX,zfY,zdj,zdk,zdl,zdm,zdn,zfZ,zej,zdo,zek,zf0,zf1,zdp,zdq,zdr,zel,zem,zen,zeo,zds,zdt,zdu,zf2,zf3,zep,zf4,zeq,zf5,zf6,zf7,zf8,zf9,zga,zer,zgb,zgc,zgd,zes,zge,zet,zeu,zgf,zev,zgg,zgh,zgi,zew,zgj,zgk,zgl,zgm,zgn,zgo,zex,zgp,zey,zez,zeA,zeB,zeC,zeD,zdv,zeE,zhf,zgq,zeF,zgr,zeG,zgs,zgt,zgu,zgv,zgw,zgx,zeH,zeI,zeJ,zgy,zgz,zeK,zgA,zeL,zeM,zgB,zgC,zhg,za8,zbM,zce,zbN,zcP,zbo,zbO,zbp,zbP,zal,zbq,zbr,zae,zbs,zbt,zbu,zcf,zbQ,za9,zbv,zbw,zaM,zba,zaU,zcz,zaz,zcg,zaq,zaV,zbR,zch,zbb,zbc,zbS,zbx,zaA,zbT,zbU,zci,zbd,zaf,zar,zas,zaa,zat,zaB,zaW,zbe,zbV,zcj,zbW,zcQ,zby,zbX,zbz,zbY,zam,zbA,zbB,zag,zbC,zbD,zbE,zck,zbZ,zbf,zbF,zbG,zaN,zbg,zaX,zcA,zaC,zcl,zau,zaY,zb0,zcm,zbh,zbi,zb1,zbH,zaD,zb2,zb3,zcn,zbj,zah,zav,zaw,zab,zax,zaE,zaZ,za0,za1,zai,zaj,zb4,zb5,zbk,zb6,zbI,zbJ,zco,zaF,zcR,za2,zaG,zan,za3,zaH,zay,zaO,zak,zaI,zaJ,zac,zaK,zaP,zbl,zb7,zdw,zdx,zcB,za4,zbm,zcS,zdy,zdz,zcC,zdA,zeN,zeO,zdB,zdC,zgD,zeP,zeQ,zgE,zeR,zeS,zgF,zgG,zgH,zgI,zgJ,zeT,zeU,zeV,zeW,zeX,zgK,zeY,zeZ,ze0,ze1,ze2,ze3,zgL,zgM,zgN,ze4,zdD,zgO,ze5,ze6,ze7,zgP,zgQ,zgR,zgS,ze8,zgT,ze9,zfa,zfb,zfc,zfd,zfe,zff,zdE,zcT,zcU,zcV,zcD,zcE,zfg,zfh,zfi,zfj,zfk,zgU,zfl,zfm,zfn,zgV,zgW,zgX,zgY,zgZ,zfo,zfp,zfq,zfr,zg0,zg1,zg2,zg3,zfs,zft,zg4,zfu,zfv,zfw,zfx,zfy,zdF,zfz,zfA,zfB,zfC,zfD,zg5,zfE,zg6,zg7,zg8,zg9,zha,zhb,zfF,zfG,zfH,zfI,zhc,zfJ,zfK,zfL,zfM,zfN,zb8,zcF,zcW,zcG,zfO,zcp,zcH,zcq,zcI,zaL,zcr,zcs,zao,zct,zcu,zcv,zcX,zcJ,zb9,zcw,zcx,zbn,zca,zbK,zdG,za5,zcY,zaQ,zbL,zcK,zcZ,zcb,zcc,zcL,zcy,za6,zcM,zcN,zc0,zcd,zap,zaR,zaS,zad,zaT,za7,F_FlowRun_go,if_true,if_false,zhh,zhi,cond_true,cond_false,List.zip,List.zipWith,List.length_cons,List.length_nil,Option.isSome_some,Bool.false_eq_true,reduceIte,reduceCtorEq,Nat.reduceEqDiff,Nat.reduceAdd,Nat.reduceLeDiff,Int.cast_ofNat_Int,decide_true,decide_false,Bool.and_true,Bool.true_and,Bool.and_false,Bool.false_and,Int.sub_zero,Int.reduceNeg,Nat.reduceLT,and_self,and_true,true_and,Bool.false_or,Bool.or_false,Bool.true_or,Bool.or_true,Bool.not_true,Bool.not_false,Int.natAbs_neg,Int.reduceSub,Int.reduceAdd,Int.reduceToNat,Int.natAbs_zero,Int.natAbs_one,Int.reduceLT,Int.reduceLE,Int.reduceGE,Int.reduceGT,decide_eq_true_eq,List.getElem?_cons_zero,List.getElem?_cons_succ,Nat.reduceSub,Int.reduceMul,Nat.reduceBEq,Nat.reducePow,Int.reducePow,and_false,false_and,eq_self,zc1,zcO _ _ zcB,IX,lim,t.pile,zc4,sp,q1,q2,q3,hn,n2]
  · have h2 := (h.grow (.list [.int 0])).grow (.list [])
    have pi := h.pl hp
    have sp := spots_w (A := A) pi
    have hn : ¬ (H.next = H.next + 1) := by omega
    have n2 : ∀ n d : Nat, (ev (PgC lf1 lg1) (n + 40) (d + 2)).c (.fn 390831091446895) [.ref A.co, .int 1] ((H.new (.list [.int 0])).new (.list [])) = some (.none, (((H.new (.list [.int 0])).new (.list [])).new (.list (pmv .w))).upd A.cd (ctl ((H.new (.list [.int 0])).new (.list [])).next)) := cut_ok h2 f .w 1 (by rw [hp]; rfl)
    refine ⟨_, ⟨_, h2.cut .w⟩, fun n d => ?_⟩
    rw [ec_fn, callF_ _ _ _ zaM rfl rfl]
    have sp := sp (n + 37) (d + 1)
    simp only [spE, spI, spT, LWb] at sp
    have q1 : ((H.new (.list [.int 0])).new (.list [])).get H.next = some (.list [.int 0]) := (new_ne _ _ _ (by show H.next ≠ H.next + 1; omega)).trans (new_eq _ _)
    have q2 : ((H.new (.list [.int 0])).new (.list [])).get (H.next + 1) = some (.list []) := new_eq (H.new (.list [.int 0])) _
    have q3 : (H.new (.list [.int 0])).next = H.next + 1 := rfl
    simp only [zdH,zdI,zdJ,zdK,zdL,zdM,zdN,zdO,zdP,zdQ,zc2,zdR,zdS,zdT,zdU,zc3,zdV,zdW,zdX,zdY,zc4,zfP,zfQ,zfR,zfS,zdZ,zd0,zd1,zd2,zd3,zd4,zd5,zd6,zc5,zc6,zd7,zd8,zd9,zea,zeb,zec,zed,zc7,zc8,zee,zhd,zhe,zc9,zda,zdb,zdc,zdd,zde,zfT,zfU,zfV,zef,zeg,zdf,zdg,zdh,zdi,zeh,zei,zfW,zfX,zfY,zdj,zdk,zdl,zdm,zdn,zfZ,zej,zdo,zek,zf0,zf1,zdp,zdq,zdr,zel,zem,zen,zeo,zds,zdt,zdu,zf2,zf3,zep,zf4,zeq,zf5,zf6,zf7,zf8,zf9,zga,zer,zgb,zgc,zgd,zes,zge,zet,zeu,zgf,zev,zgg,zgh,zgi,zew,zgj,zgk,zgl,zgm,zgn,zgo,zex,zgp,zey,zez,zeA,zeB,zeC,zeD,zdv,zeE,zhf,zgq,zeF,zgr,zeG,zgs,zgt,zgu,zgv,zgw,zgx,zeH,zeI,zeJ,zgy,zgz,zeK,zgA,zeL,zeM,zgB,zgC,zhg,za8,zbM,zce,zbN,zcP,zbo,zbO,zbp,zbP,zal,zbq,zbr,zae,zbs,zbt,zbu,zcf,zbQ,za9,zbv,zbw,zaM,zba,zaU,zcz,zaz,zcg,zaq,zaV,zbR,zch,zbb,zbc,zbS,zbx,zaA,zbT,zbU,zci,zbd,zaf,zar,zas,zaa,zat,zaB,zaW,zbe,zbV,zcj,zbW,zcQ,zby,zbX,zbz,zbY,zam,zbA,zbB,zag,zbC,zbD,zbE,zck,zbZ,zbf,zbF,zbG,zaN,zbg,zaX,zcA,zaC,zcl,zau,zaY,zb0,zcm,zbh,zbi,zb1,zbH,zaD,zb2,zb3,zcn,zbj,zah,zav,zaw,zab,zax,zaE,zaZ,za0,za1,zai,zaj,zb4,zb5,zbk,zb6,zbI,zbJ,zco,zaF,zcR,za2,zaG,zan,za3,zaH,zay,zaO,zak,zaI,zaJ,zac,zaK,zaP,zbl,zb7,zdw,zdx,zcB,za4,zbm,zcS,zdy,zdz,zcC,zdA,zeN,zeO,zdB,zdC,zgD,zeP,zeQ,zgE,zeR,zeS,zgF,zgG,zgH,zgI,zgJ,zeT,zeU,zeV,zeW,zeX,zgK,zeY,zeZ,ze0,ze1,ze2,ze3,zgL,zgM,zgN,ze4,zdD,zgO,ze5,ze6,ze7,zgP,zgQ,zgR,zgS,ze8,zgT,ze9,zfa,zfb,zfc,zfd,zfe,zff,zdE,zcT,zcU,zcV,zcD,zcE,zfg,zfh,zfi,zfj,zfk,zgU,zfl,zfm,zfn,zgV,zgW,zgX,zgY,zgZ,zfo,zfp,zfq,zfr,zg0,zg1,zg2,zg3,zfs,zft,zg4,zfu,zfv,zfw,zfx,zfy,zdF,zfz,zfA,zfB,zfC,zfD,zg5,zfE,zg6,zg7,zg8,zg9,zha,zhb,zfF,zfG,zfH,zfI,zhc,zfJ,zfK,zfL,zfM,zfN,zb8,zcF,zcW,zcG,zfO,zcp,zcH,zcq,zcI,zaL,zcr,zcs,zao,zct,zcu,zcv,zcX,zcJ,zb9,zcw,zcx,zbn,zca,zbK,zdG,za5,zcY,zaQ,zbL,zcK,zcZ,zcb,zcc,zcL,zcy,za6,zcM,zcN,zc0,zcd,zap,zaR,zaS,zad,zaT,za7,F_FlowRun_go,if_true,if_false,zhh,zhi,cond_true,cond_false,List.zip,List.zipWith,List.length_cons,List.length_nil,Option.isSome_some,Bool.false_eq_true,reduceIte,reduceCtorEq,Nat.reduceEqDiff,Nat.reduceAdd,Nat.reduceLeDiff,Int.cast_ofNat_Int,decide_true,decide_false,Bool.and_true,Bool.true_and,Bool.and_false,Bool.false_and,Int.sub_zero,Int.reduceNeg,Nat.reduceLT,and_self,and_true,true_and,Bool.false_or,Bool.or_false,Bool.true_or,Bool.or_true,Bool.not_true,Bool.not_false,Int.natAbs_neg,Int.reduceSub,Int.reduceAdd,Int.reduceToNat,Int.natAbs_zero,Int.natAbs_one,Int.reduceLT,Int.reduceLE,Int.reduceGE,Int.reduceGT,decide_eq_true_eq,List.getElem?_cons_zero,List.getElem?_cons_succ,Nat.reduceSub,Int.reduceMul,Nat.reduceBEq,Nat.reducePow,Int.reducePow,and_false,false_and,eq_self,zc1,zcO _ _ zcB,IX,lim,t.pile,zc4,sp,q1,q2,q3,hn,n2,idxL,Int.reduceEq]
theorem wend_ok (h : St G A p s H) (f : RFix G A F) (hp : s.pile = .e ∨ s.pile = .w) : ∃ H', Sx G A { s with pile := .e } H' ∧ ∀ n d : Nat, (ev (PgC lf1 lg1) (n + 160) (d + 6)).c (.fn 6925052691476228959844) [.ref A.co, .int 3] H = some (.none, H') := by
  have t := h.at f
  rcases hp with hp | hp
  · have h2 := (h.grow (.list [])).grow (.list [])
    have pi := h.pl hp
    have sp := spots_e (A := A) pi
    have hn : ¬ (H.next = H.next + 1) := by omega
    refine ⟨_, ⟨p, ((show { s with pile := .e } = s by rw [← hp]) ▸ h2)⟩, fun n d => ?_⟩
    rw [ec_fn, callF_ _ _ _ zba rfl rfl]
    have sp := sp (n + 37) (d + 1)
    simp only [spE, spI, spT, LWb] at sp
    have q1 : ((H.new (.list [])).new (.list [])).get H.next = some (.list []) := (new_ne _ _ _ (by show H.next ≠ H.next + 1; omega)).trans (new_eq _ _)
    have q2 : ((H.new (.list [])).new (.list [])).get (H.next + 1) = some (.list []) := new_eq (H.new (.list [])) _
    have q3 : (H.new (.list [])).next = H.next + 1 := rfl
    simp only [zdH,zdI,zdJ,zdK,zdL,zdM,zdN,zdO,zdP,zdQ,zc2,zdR,zdS,zdT,zdU,zc3,zdV,zdW,zdX,zdY,zc4,zfP,zfQ,zfR,zfS,zdZ,zd0,zd1,zd2,zd3,zd4,zd5,zd6,zc5,zc6,zd7,zd8,zd9,zea,zeb,zec,zed,zc7,zc8,zee,zhd,zhe,zc9,zda,zdb,zdc,zdd,zde,zfT,zfU,zfV,zef,zeg,zdf,zdg,zdh,zdi,zeh,zei,zfW,zfX,zfY,zdj,zdk,zdl,zdm,zdn,zfZ,zej,zdo,zek,zf0,zf1,zdp,zdq,zdr,zel,zem,zen,zeo,zds,zdt,zdu,zf2,zf3,zep,zf4,zeq,zf5,zf6,zf7,zf8,zf9,zga,zer,zgb,zgc,zgd,zes,zge,zet,zeu,zgf,zev,zgg,zgh,zgi,zew,zgj,zgk,zgl,zgm,zgn,zgo,zex,zgp,zey,zez,zeA,zeB,zeC,zeD,zdv,zeE,zhf,zgq,zeF,zgr,zeG,zgs,zgt,zgu,zgv,zgw,zgx,zeH,zeI,zeJ,zgy,zgz,zeK,zgA,zeL,zeM,zgB,zgC,zhg,za8,zbM,zce,zbN,zcP,zbo,zbO,zbp,zbP,zal,zbq,zbr,zae,zbs,zbt,zbu,zcf,zbQ,za9,zbv,zbw,zaM,zba,zaU,zcz,zaz,zcg,zaq,zaV,zbR,zch,zbb,zbc,zbS,zbx,zaA,zbT,zbU,zci,zbd,zaf,zar,zas,zaa,zat,zaB,zaW,zbe,zbV,zcj,zbW,zcQ,zby,zbX,zbz,zbY,zam,zbA,zbB,zag,zbC,zbD,zbE,zck,zbZ,zbf,zbF,zbG,zaN,zbg,zaX,zcA,zaC,zcl,zau,zaY,zb0,zcm,zbh,zbi,zb1,zbH,zaD,zb2,zb3,zcn,zbj,zah,zav,zaw,zab,zax,zaE,zaZ,za0,za1,zai,zaj,zb4,zb5,zbk,zb6,zbI,zbJ,zco,zaF,zcR,za2,zaG,zan,za3,zaH,zay,zaO,zak,zaI,zaJ,zac,zaK,zaP,zbl,zb7,zdw,zdx,zcB,za4,zbm,zcS,zdy,zdz,zcC,zdA,zeN,zeO,zdB,zdC,zgD,zeP,zeQ,zgE,zeR,zeS,zgF,zgG,zgH,zgI,zgJ,zeT,zeU,zeV,zeW,zeX,zgK,zeY,zeZ,ze0,ze1,ze2,ze3,zgL,zgM,zgN,ze4,zdD,zgO,ze5,ze6,ze7,zgP,zgQ,zgR,zgS,ze8,zgT,ze9,zfa,zfb,zfc,zfd,zfe,zff,zdE,zcT,zcU,zcV,zcD,zcE,zfg,zfh,zfi,zfj,zfk,zgU,zfl,zfm,zfn,zgV,zgW,zgX,zgY,zgZ,zfo,zfp,zfq,zfr,zg0,zg1,zg2,zg3,zfs,zft,zg4,zfu,zfv,zfw,zfx,zfy,zdF,zfz,zfA,zfB,zfC,zfD,zg5,zfE,zg6,zg7,zg8,zg9,zha,zhb,zfF,zfG,zfH,zfI,zhc,zfJ,zfK,zfL,zfM,zfN,zb8,zcF,zcW,zcG,zfO,zcp,zcH,zcq,zcI,zaL,zcr,zcs,zao,zct,zcu,zcv,zcX,zcJ,zb9,zcw,zcx,zbn,zca,zbK,zdG,za5,zcY,zaQ,zbL,zcK,zcZ,zcb,zcc,zcL,zcy,za6,zcM,zcN,zc0,zcd,zap,zaR,zaS,zad,zaT,za7,F_FlowRun_go,if_true,if_false,zhh,zhi,cond_true,cond_false,List.zip,List.zipWith,List.length_cons,List.length_nil,Option.isSome_some,Bool.false_eq_true,reduceIte,reduceCtorEq,Nat.reduceEqDiff,Nat.reduceAdd,Nat.reduceLeDiff,Int.cast_ofNat_Int,decide_true,decide_false,Bool.and_true,Bool.true_and,Bool.and_false,Bool.false_and,Int.sub_zero,Int.reduceNeg,Nat.reduceLT,and_self,and_true,true_and,Bool.false_or,Bool.or_false,Bool.true_or,Bool.or_true,Bool.not_true,Bool.not_false,Int.natAbs_neg,Int.reduceSub,Int.reduceAdd,Int.reduceToNat,Int.natAbs_zero,Int.natAbs_one,Int.reduceLT,Int.reduceLE,Int.reduceGE,Int.reduceGT,decide_eq_true_eq,List.getElem?_cons_zero,List.getElem?_cons_succ,Nat.reduceSub,Int.reduceMul,Nat.reduceBEq,Nat.reducePow,Int.reducePow,and_false,false_and,eq_self,zc1,zcO _ _ zcB,IX,lim,t.pile,zc4,sp,q1,q2,q3,hn]
  · have h2 := (h.grow (.list [.int 0])).grow (.list [])
    have pi := h.pl hp
    have sp := spots_w (A := A) pi
    have hn : ¬ (H.next = H.next + 1) := by omega
    have n2 : ∀ n d : Nat, (ev (PgC lf1 lg1) (n + 40) (d + 2)).c (.fn 390831091446895) [.ref A.co, .int 0] ((H.new (.list [.int 0])).new (.list [])) = some (.none, (((H.new (.list [.int 0])).new (.list [])).new (.list (pmv .e))).upd A.cd (ctl ((H.new (.list [.int 0])).new (.list [])).next)) := cut_ok h2 f .e 0 (by rw [hp]; rfl)
    refine ⟨_, ⟨_, h2.cut .e⟩, fun n d => ?_⟩
    rw [ec_fn, callF_ _ _ _ zba rfl rfl]
    have sp := sp (n + 37) (d + 1)
    simp only [spE, spI, spT, LWb] at sp
    have q1 : ((H.new (.list [.int 0])).new (.list [])).get H.next = some (.list [.int 0]) := (new_ne _ _ _ (by show H.next ≠ H.next + 1; omega)).trans (new_eq _ _)
    have q2 : ((H.new (.list [.int 0])).new (.list [])).get (H.next + 1) = some (.list []) := new_eq (H.new (.list [.int 0])) _
    have q3 : (H.new (.list [.int 0])).next = H.next + 1 := rfl
    simp only [zdH,zdI,zdJ,zdK,zdL,zdM,zdN,zdO,zdP,zdQ,zc2,zdR,zdS,zdT,zdU,zc3,zdV,zdW,zdX,zdY,zc4,zfP,zfQ,zfR,zfS,zdZ,zd0,zd1,zd2,zd3,zd4,zd5,zd6,zc5,zc6,zd7,zd8,zd9,zea,zeb,zec,zed,zc7,zc8,zee,zhd,zhe,zc9,zda,zdb,zdc,zdd,zde,zfT,zfU,zfV,zef,zeg,zdf,zdg,zdh,zdi,zeh,zei,zfW,zfX,zfY,zdj,zdk,zdl,zdm,zdn,zfZ,zej,zdo,zek,zf0,zf1,zdp,zdq,zdr,zel,zem,zen,zeo,zds,zdt,zdu,zf2,zf3,zep,zf4,zeq,zf5,zf6,zf7,zf8,zf9,zga,zer,zgb,zgc,zgd,zes,zge,zet,zeu,zgf,zev,zgg,zgh,zgi,zew,zgj,zgk,zgl,zgm,zgn,zgo,zex,zgp,zey,zez,zeA,zeB,zeC,zeD,zdv,zeE,zhf,zgq,zeF,zgr,zeG,zgs,zgt,zgu,zgv,zgw,zgx,zeH,zeI,zeJ,zgy,zgz,zeK,zgA,zeL,zeM,zgB,zgC,zhg,za8,zbM,zce,zbN,zcP,zbo,zbO,zbp,zbP,zal,zbq,zbr,zae,zbs,zbt,zbu,zcf,zbQ,za9,zbv,zbw,zaM,zba,zaU,zcz,zaz,zcg,zaq,zaV,zbR,zch,zbb,zbc,zbS,zbx,zaA,zbT,zbU,zci,zbd,zaf,zar,zas,zaa,zat,zaB,zaW,zbe,zbV,zcj,zbW,zcQ,zby,zbX,zbz,zbY,zam,zbA,zbB,zag,zbC,zbD,zbE,zck,zbZ,zbf,zbF,zbG,zaN,zbg,zaX,zcA,zaC,zcl,zau,zaY,zb0,zcm,zbh,zbi,zb1,zbH,zaD,zb2,zb3,zcn,zbj,zah,zav,zaw,zab,zax,zaE,zaZ,za0,za1,zai,zaj,zb4,zb5,zbk,zb6,zbI,zbJ,zco,zaF,zcR,za2,zaG,zan,za3,zaH,zay,zaO,zak,zaI,zaJ,zac,zaK,zaP,zbl,zb7,zdw,zdx,zcB,za4,zbm,zcS,zdy,zdz,zcC,zdA,zeN,zeO,zdB,zdC,zgD,zeP,zeQ,zgE,zeR,zeS,zgF,zgG,zgH,zgI,zgJ,zeT,zeU,zeV,zeW,zeX,zgK,zeY,zeZ,ze0,ze1,ze2,ze3,zgL,zgM,zgN,ze4,zdD,zgO,ze5,ze6,ze7,zgP,zgQ,zgR,zgS,ze8,zgT,ze9,zfa,zfb,zfc,zfd,zfe,zff,zdE,zcT,zcU,zcV,zcD,zcE,zfg,zfh,zfi,zfj,zfk,zgU,zfl,zfm,zfn,zgV,zgW,zgX,zgY,zgZ,zfo,zfp,zfq,zfr,zg0,zg1,zg2,zg3,zfs,zft,zg4,zfu,zfv,zfw,zfx,zfy,zdF,zfz,zfA,zfB,zfC,zfD,zg5,zfE,zg6,zg7,zg8,zg9,zha,zhb,zfF,zfG,zfH,zfI,zhc,zfJ,zfK,zfL,zfM,zfN,zb8,zcF,zcW,zcG,zfO,zcp,zcH,zcq,zcI,zaL,zcr,zcs,zao,zct,zcu,zcv,zcX,zcJ,zb9,zcw,zcx,zbn,zca,zbK,zdG,za5,zcY,zaQ,zbL,zcK,zcZ,zcb,zcc,zcL,zcy,za6,zcM,zcN,zc0,zcd,zap,zaR,zaS,zad,zaT,za7,F_FlowRun_go,if_true,if_false,zhh,zhi,cond_true,cond_false,List.zip,List.zipWith,List.length_cons,List.length_nil,Option.isSome_some,Bool.false_eq_true,reduceIte,reduceCtorEq,Nat.reduceEqDiff,Nat.reduceAdd,Nat.reduceLeDiff,Int.cast_ofNat_Int,decide_true,decide_false,Bool.and_true,Bool.true_and,Bool.and_false,Bool.false_and,Int.sub_zero,Int.reduceNeg,Nat.reduceLT,and_self,and_true,true_and,Bool.false_or,Bool.or_false,Bool.true_or,Bool.or_true,Bool.not_true,Bool.not_false,Int.natAbs_neg,Int.reduceSub,Int.reduceAdd,Int.reduceToNat,Int.natAbs_zero,Int.natAbs_one,Int.reduceLT,Int.reduceLE,Int.reduceGE,Int.reduceGT,decide_eq_true_eq,List.getElem?_cons_zero,List.getElem?_cons_succ,Nat.reduceSub,Int.reduceMul,Nat.reduceBEq,Nat.reducePow,Int.reducePow,and_false,false_and,eq_self,zc1,zcO _ _ zcB,IX,lim,t.pile,zc4,sp,q1,q2,q3,hn,n2,idxL,Int.reduceEq]
theorem wplace_ok (h : St G A p s H) (f : RFix G A F) (hp : s.pile = .w) : ∃ H', Sx G A s H' ∧ ∀ n d : Nat, (ev (PgC lf1 lg1) (n + 160) (d + 6)).c (.fn 1772758506815339922285413) [.ref A.co, .int 3] H = some (.int 3, H') := by
  have t := h.at f
  have n1 := fnd_w (h.pl hp)
  have n2 : ∀ n d : Nat, (ev (PgC lf1 lg1) (n + 40) (d + 2)).c (.fn 390831091446895) [.ref A.co, .int 1] H = some (.none, (H.new (.list (pmv .w))).upd A.cd (ctl H.next)) := cut_ok h f .w 1 (by rw [hp]; rfl)
  have S' := h.cut .w
  rw [show { s with pile := Pl.w } = s by rw [← hp]] at S'
  have t' := S'.at f
  refine ⟨_, ⟨_, S'⟩, fun n d => ?_⟩
  rw [ec_fn, callF_ _ _ _ zaU rfl rfl]
  have pi : ((H.new (.list (pmv .w))).upd A.cd (ctl H.next)).get H.next = some (.list [.tup [.str 1474386545733, .int 3]]) := S'.pl hp
  have tp := t'.pile
  generalize (H.new (.list (pmv .w))).upd A.cd (ctl H.next) = H' at n2 pi tp
  simp only [zdH,zdI,zdJ,zdK,zdL,zdM,zdN,zdO,zdP,zdQ,zc2,zdR,zdS,zdT,zdU,zc3,zdV,zdW,zdX,zdY,zc4,zfP,zfQ,zfR,zfS,zdZ,zd0,zd1,zd2,zd3,zd4,zd5,zd6,zc5,zc6,zd7,zd8,zd9,zea,zeb,zec,zed,zc7,zc8,zee,zhd,zhe,zc9,zda,zdb,zdc,zdd,zde,zfT,zfU,zfV,zef,zeg,zdf,zdg,zdh,zdi,zeh,zei,zfW,zfX,zfY,zdj,zdk,zdl,zdm,zdn,zfZ,zej,zdo,zek,zf0,zf1,zdp,zdq,zdr,zel,zem,zen,zeo,zds,zdt,zdu,zf2,zf3,zep,zf4,zeq,zf5,zf6,zf7,zf8,zf9,zga,zer,zgb,zgc,zgd,zes,zge,zet,zeu,zgf,zev,zgg,zgh,zgi,zew,zgj,zgk,zgl,zgm,zgn,zgo,zex,zgp,zey,zez,zeA,zeB,zeC,zeD,zdv,zeE,zhf,zgq,zeF,zgr,zeG,zgs,zgt,zgu,zgv,zgw,zgx,zeH,zeI,zeJ,zgy,zgz,zeK,zgA,zeL,zeM,zgB,zgC,zhg,za8,zbM,zce,zbN,zcP,zbo,zbO,zbp,zbP,zal,zbq,zbr,zae,zbs,zbt,zbu,zcf,zbQ,za9,zbv,zbw,zaM,zba,zaU,zcz,zaz,zcg,zaq,zaV,zbR,zch,zbb,zbc,zbS,zbx,zaA,zbT,zbU,zci,zbd,zaf,zar,zas,zaa,zat,zaB,zaW,zbe,zbV,zcj,zbW,zcQ,zby,zbX,zbz,zbY,zam,zbA,zbB,zag,zbC,zbD,zbE,zck,zbZ,zbf,zbF,zbG,zaN,zbg,zaX,zcA,zaC,zcl,zau,zaY,zb0,zcm,zbh,zbi,zb1,zbH,zaD,zb2,zb3,zcn,zbj,zah,zav,zaw,zab,zax,zaE,zaZ,za0,za1,zai,zaj,zb4,zb5,zbk,zb6,zbI,zbJ,zco,zaF,zcR,za2,zaG,zan,za3,zaH,zay,zaO,zak,zaI,zaJ,zac,zaK,zaP,zbl,zb7,zdw,zdx,zcB,za4,zbm,zcS,zdy,zdz,zcC,zdA,zeN,zeO,zdB,zdC,zgD,zeP,zeQ,zgE,zeR,zeS,zgF,zgG,zgH,zgI,zgJ,zeT,zeU,zeV,zeW,zeX,zgK,zeY,zeZ,ze0,ze1,ze2,ze3,zgL,zgM,zgN,ze4,zdD,zgO,ze5,ze6,ze7,zgP,zgQ,zgR,zgS,ze8,zgT,ze9,zfa,zfb,zfc,zfd,zfe,zff,zdE,zcT,zcU,zcV,zcD,zcE,zfg,zfh,zfi,zfj,zfk,zgU,zfl,zfm,zfn,zgV,zgW,zgX,zgY,zgZ,zfo,zfp,zfq,zfr,zg0,zg1,zg2,zg3,zfs,zft,zg4,zfu,zfv,zfw,zfx,zfy,zdF,zfz,zfA,zfB,zfC,zfD,zg5,zfE,zg6,zg7,zg8,zg9,zha,zhb,zfF,zfG,zfH,zfI,zhc,zfJ,zfK,zfL,zfM,zfN,zb8,zcF,zcW,zcG,zfO,zcp,zcH,zcq,zcI,zaL,zcr,zcs,zao,zct,zcu,zcv,zcX,zcJ,zb9,zcw,zcx,zbn,zca,zbK,zdG,za5,zcY,zaQ,zbL,zcK,zcZ,zcb,zcc,zcL,zcy,za6,zcM,zcN,zc0,zcd,zap,zaR,zaS,zad,zaT,za7,F_FlowRun_go,if_true,if_false,zhh,zhi,cond_true,cond_false,List.zip,List.zipWith,List.length_cons,List.length_nil,Option.isSome_some,Bool.false_eq_true,reduceIte,reduceCtorEq,Nat.reduceEqDiff,Nat.reduceAdd,Nat.reduceLeDiff,Int.cast_ofNat_Int,decide_true,decide_false,Bool.and_true,Bool.true_and,Bool.and_false,Bool.false_and,Int.sub_zero,Int.reduceNeg,Nat.reduceLT,and_self,and_true,true_and,Bool.false_or,Bool.or_false,Bool.true_or,Bool.or_true,Bool.not_true,Bool.not_false,Int.natAbs_neg,Int.reduceSub,Int.reduceAdd,Int.reduceToNat,Int.natAbs_zero,Int.natAbs_one,Int.reduceLT,Int.reduceLE,Int.reduceGE,Int.reduceGT,decide_eq_true_eq,List.getElem?_cons_zero,List.getElem?_cons_succ,Nat.reduceSub,Int.reduceMul,Nat.reduceBEq,Nat.reducePow,Int.reducePow,and_false,false_and,eq_self,zc1,zcO _ _ zcB,IX,lim,t.pile,n1,n2,tp,pi]
theorem gosub_ok (h : St G A p s H) (f : RFix G A F) (l : Int) (hp : s.pile = .f l) : ∀ n d : Nat, (ev (PgC lf1 lg1) (n + 90) (d + 6)).c (.fn 1543763096930) [.ref A.co, .int 2] H = some (.none, H.upd p (.list (pmv (.fg l)))) := by
  intro n d
  rw [ec_fn, callF_ _ _ _ zcz rfl rfl]
  have n2 := put_ok h f (.fg l) (.tup [.str 1405785167170, .int 2]) (by rw [hp]; rfl) (by rw [hp]; exact (by decide : 1 < 20))
  simp only [zdH,zdI,zdJ,zdK,zdL,zdM,zdN,zdO,zdP,zdQ,zc2,zdR,zdS,zdT,zdU,zc3,zdV,zdW,zdX,zdY,zc4,zfP,zfQ,zfR,zfS,zdZ,zd0,zd1,zd2,zd3,zd4,zd5,zd6,zc5,zc6,zd7,zd8,zd9,zea,zeb,zec,zed,zc7,zc8,zee,zhd,zhe,zc9,zda,zdb,zdc,zdd,zde,zfT,zfU,zfV,zef,zeg,zdf,zdg,zdh,zdi,zeh,zei,zfW,zfX,zfY,zdj,zdk,zdl,zdm,zdn,zfZ,zej,zdo,zek,zf0,zf1,zdp,zdq,zdr,zel,zem,zen,zeo,zds,zdt,zdu,zf2,zf3,zep,zf4,zeq,zf5,zf6,zf7,zf8,zf9,zga,zer,zgb,zgc,zgd,zes,zge,zet,zeu,zgf,zev,zgg,zgh,zgi,zew,zgj,zgk,zgl,zgm,zgn,zgo,zex,zgp,zey,zez,zeA,zeB,zeC,zeD,zdv,zeE,zhf,zgq,zeF,zgr,zeG,zgs,zgt,zgu,zgv,zgw,zgx,zeH,zeI,zeJ,zgy,zgz,zeK,zgA,zeL,zeM,zgB,zgC,zhg,za8,zbM,zce,zbN,zcP,zbo,zbO,zbp,zbP,zal,zbq,zbr,zae,zbs,zbt,zbu,zcf,zbQ,za9,zbv,zbw,zaM,zba,zaU,zcz,zaz,zcg,zaq,zaV,zbR,zch,zbb,zbc,zbS,zbx,zaA,zbT,zbU,zci,zbd,zaf,zar,zas,zaa,zat,zaB,zaW,zbe,zbV,zcj,zbW,zcQ,zby,zbX,zbz,zbY,zam,zbA,zbB,zag,zbC,zbD,zbE,zck,zbZ,zbf,zbF,zbG,zaN,zbg,zaX,zcA,zaC,zcl,zau,zaY,zb0,zcm,zbh,zbi,zb1,zbH,zaD,zb2,zb3,zcn,zbj,zah,zav,zaw,zab,zax,zaE,zaZ,za0,za1,zai,zaj,zb4,zb5,zbk,zb6,zbI,zbJ,zco,zaF,zcR,za2,zaG,zan,za3,zaH,zay,zaO,zak,zaI,zaJ,zac,zaK,zaP,zbl,zb7,zdw,zdx,zcB,za4,zbm,zcS,zdy,zdz,zcC,zdA,zeN,zeO,zdB,zdC,zgD,zeP,zeQ,zgE,zeR,zeS,zgF,zgG,zgH,zgI,zgJ,zeT,zeU,zeV,zeW,zeX,zgK,zeY,zeZ,ze0,ze1,ze2,ze3,zgL,zgM,zgN,ze4,zdD,zgO,ze5,ze6,ze7,zgP,zgQ,zgR,zgS,ze8,zgT,ze9,zfa,zfb,zfc,zfd,zfe,zff,zdE,zcT,zcU,zcV,zcD,zcE,zfg,zfh,zfi,zfj,zfk,zgU,zfl,zfm,zfn,zgV,zgW,zgX,zgY,zgZ,zfo,zfp,zfq,zfr,zg0,zg1,zg2,zg3,zfs,zft,zg4,zfu,zfv,zfw,zfx,zfy,zdF,zfz,zfA,zfB,zfC,zfD,zg5,zfE,zg6,zg7,zg8,zg9,zha,zhb,zfF,zfG,zfH,zfI,zhc,zfJ,zfK,zfL,zfM,zfN,zb8,zcF,zcW,zcG,zfO,zcp,zcH,zcq,zcI,zaL,zcr,zcs,zao,zct,zcu,zcv,zcX,zcJ,zb9,zcw,zcx,zbn,zca,zbK,zdG,za5,zcY,zaQ,zbL,zcK,zcZ,zcb,zcc,zcL,zcy,za6,zcM,zcN,zc0,zcd,zap,zaR,zaS,zad,zaT,za7,F_FlowRun_go,if_true,if_false,zhh,zhi,cond_true,cond_false,List.zip,List.zipWith,List.length_cons,List.length_nil,Option.isSome_some,Bool.false_eq_true,reduceIte,reduceCtorEq,Nat.reduceEqDiff,Nat.reduceAdd,Nat.reduceLeDiff,Int.cast_ofNat_Int,decide_true,decide_false,Bool.and_true,Bool.true_and,Bool.and_false,Bool.false_and,Int.sub_zero,Int.reduceNeg,Nat.reduceLT,and_self,and_true,true_and,Bool.false_or,Bool.or_false,Bool.true_or,Bool.or_true,Bool.not_true,Bool.not_false,Int.natAbs_neg,Int.reduceSub,Int.reduceAdd,Int.reduceToNat,Int.natAbs_zero,Int.natAbs_one,Int.reduceLT,Int.reduceLE,Int.reduceGE,Int.reduceGT,decide_eq_true_eq,List.getElem?_cons_zero,List.getElem?_cons_succ,Nat.reduceSub,Int.reduceMul,Nat.reduceBEq,Nat.reducePow,Int.reducePow,and_false,false_and,eq_self,zc1,zcO _ _ zcB,IX,lim,n2]
theorem retp_ok (h : St G A p s H) (f : RFix G A F) (l : Int) (hp : s.pile = .fg l) : ∀ n d : Nat, (ev (PgC lf1 lg1) (n + 120) (d + 6)).c (.fn 114632105102705455381897896805) [.ref A.co] H = some (.int 2, (H.new (.list (pmv (.f l)))).upd A.cd (ctl H.next)) := by
  intro n d
  rw [ec_fn, callF_ _ _ _ zaz rfl rfl]
  have t := h.at f
  have n1 := floor_fg l (h.pl hp)
  have n2 : ∀ n d : Nat, (ev (PgC lf1 lg1) (n + 40) (d + 2)).c (.fn 390831091446895) [.ref A.co, .int 1] H = some (.none, (H.new (.list (pmv (.f l)))).upd A.cd (ctl H.next)) := cut_ok h f (.f l) 1 (by rw [hp]; rfl)
  have pi := h.pl hp
  simp only [pmv, forV] at pi
  simp only [zdH,zdI,zdJ,zdK,zdL,zdM,zdN,zdO,zdP,zdQ,zc2,zdR,zdS,zdT,zdU,zc3,zdV,zdW,zdX,zdY,zc4,zfP,zfQ,zfR,zfS,zdZ,zd0,zd1,zd2,zd3,zd4,zd5,zd6,zc5,zc6,zd7,zd8,zd9,zea,zeb,zec,zed,zc7,zc8,zee,zhd,zhe,zc9,zda,zdb,zdc,zdd,zde,zfT,zfU,zfV,zef,zeg,zdf,zdg,zdh,zdi,zeh,zei,zfW,zfX,zfY,zdj,zdk,zdl,zdm,zdn,zfZ,zej,zdo,zek,zf0,zf1,zdp,zdq,zdr,zel,zem,zen,zeo,zds,zdt,zdu,zf2,zf3,zep,zf4,zeq,zf5,zf6,zf7,zf8,zf9,zga,zer,zgb,zgc,zgd,zes,zge,zet,zeu,zgf,zev,zgg,zgh,zgi,zew,zgj,zgk,zgl,zgm,zgn,zgo,zex,zgp,zey,zez,zeA,zeB,zeC,zeD,zdv,zeE,zhf,zgq,zeF,zgr,zeG,zgs,zgt,zgu,zgv,zgw,zgx,zeH,zeI,zeJ,zgy,zgz,zeK,zgA,zeL,zeM,zgB,zgC,zhg,za8,zbM,zce,zbN,zcP,zbo,zbO,zbp,zbP,zal,zbq,zbr,zae,zbs,zbt,zbu,zcf,zbQ,za9,zbv,zbw,zaM,zba,zaU,zcz,zaz,zcg,zaq,zaV,zbR,zch,zbb,zbc,zbS,zbx,zaA,zbT,zbU,zci,zbd,zaf,zar,zas,zaa,zat,zaB,zaW,zbe,zbV,zcj,zbW,zcQ,zby,zbX,zbz,zbY,zam,zbA,zbB,zag,zbC,zbD,zbE,zck,zbZ,zbf,zbF,zbG,zaN,zbg,zaX,zcA,zaC,zcl,zau,zaY,zb0,zcm,zbh,zbi,zb1,zbH,zaD,zb2,zb3,zcn,zbj,zah,zav,zaw,zab,zax,zaE,zaZ,za0,za1,zai,zaj,zb4,zb5,zbk,zb6,zbI,zbJ,zco,zaF,zcR,za2,zaG,zan,za3,zaH,zay,zaO,zak,zaI,zaJ,zac,zaK,zaP,zbl,zb7,zdw,zdx,zcB,za4,zbm,zcS,zdy,zdz,zcC,zdA,zeN,zeO,zdB,zdC,zgD,zeP,zeQ,zgE,zeR,zeS,zgF,zgG,zgH,zgI,zgJ,zeT,zeU,zeV,zeW,zeX,zgK,zeY,zeZ,ze0,ze1,ze2,ze3,zgL,zgM,zgN,ze4,zdD,zgO,ze5,ze6,ze7,zgP,zgQ,zgR,zgS,ze8,zgT,ze9,zfa,zfb,zfc,zfd,zfe,zff,zdE,zcT,zcU,zcV,zcD,zcE,zfg,zfh,zfi,zfj,zfk,zgU,zfl,zfm,zfn,zgV,zgW,zgX,zgY,zgZ,zfo,zfp,zfq,zfr,zg0,zg1,zg2,zg3,zfs,zft,zg4,zfu,zfv,zfw,zfx,zfy,zdF,zfz,zfA,zfB,zfC,zfD,zg5,zfE,zg6,zg7,zg8,zg9,zha,zhb,zfF,zfG,zfH,zfI,zhc,zfJ,zfK,zfL,zfM,zfN,zb8,zcF,zcW,zcG,zfO,zcp,zcH,zcq,zcI,zaL,zcr,zcs,zao,zct,zcu,zcv,zcX,zcJ,zb9,zcw,zcx,zbn,zca,zbK,zdG,za5,zcY,zaQ,zbL,zcK,zcZ,zcb,zcc,zcL,zcy,za6,zcM,zcN,zc0,zcd,zap,zaR,zaS,zad,zaT,za7,F_FlowRun_go,if_true,if_false,zhh,zhi,cond_true,cond_false,List.zip,List.zipWith,List.length_cons,List.length_nil,Option.isSome_some,Bool.false_eq_true,reduceIte,reduceCtorEq,Nat.reduceEqDiff,Nat.reduceAdd,Nat.reduceLeDiff,Int.cast_ofNat_Int,decide_true,decide_false,Bool.and_true,Bool.true_and,Bool.and_false,Bool.false_and,Int.sub_zero,Int.reduceNeg,Nat.reduceLT,and_self,and_true,true_and,Bool.false_or,Bool.or_false,Bool.true_or,Bool.or_true,Bool.not_true,Bool.not_false,Int.natAbs_neg,Int.reduceSub,Int.reduceAdd,Int.reduceToNat,Int.natAbs_zero,Int.natAbs_one,Int.reduceLT,Int.reduceLE,Int.reduceGE,Int.reduceGT,decide_eq_true_eq,List.getElem?_cons_zero,List.getElem?_cons_succ,Nat.reduceSub,Int.reduceMul,Nat.reduceBEq,Nat.reducePow,Int.reducePow,and_false,false_and,eq_self,zc1,zcO _ _ zcB,IX,lim,t.pile,pi,n1,n2,Int.reduceEq]
end
end Mn.Mg
end
section
set_option maxRecDepth 100000
namespace Mn.Mg
section
variable {G : Fz} {A : RA} {F : Fl} {p : Nat} {s : RS} {H : MH}
theorem lst_next {K : MH} {k : Nat} {vs : List MV} (h : K.get k = some (.list vs)) (j : Nat) : (It.lst k j).next K = some (vs[j]?.map fun v => (v, .lst k (j + 1))) := by
  show ((K.get k).bind kla).bind _ = _
  rw [h]
  rfl
theorem dofor_ok (h : Sx G A s H) (f : RFix G A F) (r : Int) (hr : 1 ≤ r) (hp : s.pile = .e) : ∃ H', Sx G A { s with i := some 1, pile := .f r } H' ∧ ∀ n d : Nat, (ev (PgC lf1 lg1) (n + 300) (d + 14)).c (.fn 391904481406834) [.ref A.r, .int 0, (Row.for_ r).mv] H = some (.int 1, H') := by
  have n1 := worth_ok h f (.tup [.str 24339828, .int 1]) (w_set 1)
  have n2 := worth_ok h f (.tup [.str 24339828, .int r]) (w_set r)
  obtain ⟨H1, n3, S1⟩ := storeI h f 1 (by decide)
  have n4 := valueI_ok S1 f (j := 1) rfl
  obtain ⟨p, h'⟩ := h
  have t := h'.at f
  obtain ⟨p1, h1⟩ := id S1
  have t1 := h1.at f
  have n5 := forb_ok h1 f r hp
  have q : ¬ (r < 1) := by omega
  refine ⟨_, ⟨p1, h1.push (.f r)⟩, fun n d => ?_⟩
  rw [ec_fn, callF_ _ _ _ zci rfl rfl]
  simp only [zdH,zdI,zdJ,zdK,zdL,zdM,zdN,zdO,zdP,zdQ,zc2,zdR,zdS,zdT,zdU,zc3,zdV,zdW,zdX,zdY,zc4,zfP,zfQ,zfR,zfS,zdZ,zd0,zd1,zd2,zd3,zd4,zd5,zd6,zc5,zc6,zd7,zd8,zd9,zea,zeb,zec,zed,zc7,zc8,zee,zhd,zhe,zc9,zda,zdb,zdc,zdd,zde,zfT,zfU,zfV,zef,zeg,zdf,zdg,zdh,zdi,zeh,zei,zfW,zfX,zfY,zdj,zdk,zdl,zdm,zdn,zfZ,zej,zdo,zek,zf0,zf1,zdp,zdq,zdr,zel,zem,zen,zeo,zds,zdt,zdu,zf2,zf3,zep,zf4,zeq,zf5,zf6,zf7,zf8,zf9,zga,zer,zgb,zgc,zgd,zes,zge,zet,zeu,zgf,zev,zgg,zgh,zgi,zew,zgj,zgk,zgl,zgm,zgn,zgo,zex,zgp,zey,zez,zeA,zeB,zeC,zeD,zdv,zeE,zhf,zgq,zeF,zgr,zeG,zgs,zgt,zgu,zgv,zgw,zgx,zeH,zeI,zeJ,zgy,zgz,zeK,zgA,zeL,zeM,zgB,zgC,zhg,za8,zbM,zce,zbN,zcP,zbo,zbO,zbp,zbP,zal,zbq,zbr,zae,zbs,zbt,zbu,zcf,zbQ,za9,zbv,zbw,zaM,zba,zaU,zcz,zaz,zcg,zaq,zaV,zbR,zch,zbb,zbc,zbS,zbx,zaA,zbT,zbU,zci,zbd,zaf,zar,zas,zaa,zat,zaB,zaW,zbe,zbV,zcj,zbW,zcQ,zby,zbX,zbz,zbY,zam,zbA,zbB,zag,zbC,zbD,zbE,zck,zbZ,zbf,zbF,zbG,zaN,zbg,zaX,zcA,zaC,zcl,zau,zaY,zb0,zcm,zbh,zbi,zb1,zbH,zaD,zb2,zb3,zcn,zbj,zah,zav,zaw,zab,zax,zaE,zaZ,za0,za1,zai,zaj,zb4,zb5,zbk,zb6,zbI,zbJ,zco,zaF,zcR,za2,zaG,zan,za3,zaH,zay,zaO,zak,zaI,zaJ,zac,zaK,zaP,zbl,zb7,zdw,zdx,zcB,za4,zbm,zcS,zdy,zdz,zcC,zdA,zeN,zeO,zdB,zdC,zgD,zeP,zeQ,zgE,zeR,zeS,zgF,zgG,zgH,zgI,zgJ,zeT,zeU,zeV,zeW,zeX,zgK,zeY,zeZ,ze0,ze1,ze2,ze3,zgL,zgM,zgN,ze4,zdD,zgO,ze5,ze6,ze7,zgP,zgQ,zgR,zgS,ze8,zgT,ze9,zfa,zfb,zfc,zfd,zfe,zff,zdE,zcT,zcU,zcV,zcD,zcE,zfg,zfh,zfi,zfj,zfk,zgU,zfl,zfm,zfn,zgV,zgW,zgX,zgY,zgZ,zfo,zfp,zfq,zfr,zg0,zg1,zg2,zg3,zfs,zft,zg4,zfu,zfv,zfw,zfx,zfy,zdF,zfz,zfA,zfB,zfC,zfD,zg5,zfE,zg6,zg7,zg8,zg9,zha,zhb,zfF,zfG,zfH,zfI,zhc,zfJ,zfK,zfL,zfM,zfN,zb8,zcF,zcW,zcG,zfO,zcp,zcH,zcq,zcI,zaL,zcr,zcs,zao,zct,zcu,zcv,zcX,zcJ,zb9,zcw,zcx,zbn,zca,zbK,zdG,za5,zcY,zaQ,zbL,zcK,zcZ,zcb,zcc,zcL,zcy,za6,zcM,zcN,zc0,zcd,zap,zaR,zaS,zad,zaT,za7,F_FlowRun_go,if_true,if_false,zhh,zhi,cond_true,cond_false,List.zip,List.zipWith,List.length_cons,List.length_nil,Option.isSome_some,Bool.false_eq_true,reduceIte,reduceCtorEq,Nat.reduceEqDiff,Nat.reduceAdd,Nat.reduceLeDiff,Int.cast_ofNat_Int,decide_true,decide_false,Bool.and_true,Bool.true_and,Bool.and_false,Bool.false_and,Int.sub_zero,Int.reduceNeg,Nat.reduceLT,and_self,and_true,true_and,Bool.false_or,Bool.or_false,Bool.true_or,Bool.or_true,Bool.not_true,Bool.not_false,Int.natAbs_neg,Int.reduceSub,Int.reduceAdd,Int.reduceToNat,Int.natAbs_zero,Int.natAbs_one,Int.reduceLT,Int.reduceLE,Int.reduceGE,Int.reduceGT,decide_eq_true_eq,List.getElem?_cons_zero,List.getElem?_cons_succ,Nat.reduceSub,Int.reduceMul,Nat.reduceBEq,Nat.reducePow,Int.reducePow,and_false,false_and,eq_self,zc1,zcO _ _ zcB,IX,lim,Row.mv,t.mw,t.ms,n1,n2,n3,t1.mv,n4,past_ok,q,t1.control,n5]
theorem nextf_ok (h : Sx G A s H) (f : RFix G A F) (k : Nat) (hk : G k = some (.list [.str 329])) (at_ l i : Int) (hp : s.pile = .f l) (hi : s.i = some i) (h90 : 0 ≤ i ∧ i < 90) :
    ∃ H', Sx G A { s with i := some (i + 1), pile := if l < i + 1 then .e else .f l } H' ∧ ∀ n d : Nat, (ev (PgC lf1 lg1) (n + 300) (d + 14)).c (.fn 6758820052925821382509) [.ref A.r, .int at_, .ref k] H = some (.int (if l < i + 1 then at_ + 1 else 1), H') := by
  have n1 := valueI_ok h f hi
  obtain ⟨p, h'⟩ := h
  have t := h'.at f
  have c0 := h'.ext _ _ hk
  have n2 := forname_ok h' f l hp
  have n3 := fornext_ok h' f l i hp ⟨h90.1, by omega⟩
  have S2 : St G A H.next { s with pile := if l < i + 1 then .e else .f l } _ := h'.cut (if l < i + 1 then .e else .f l)
  obtain ⟨H2, hH2⟩ : ∃ H2, (H.new (.list (pmv (if l < i + 1 then .e else .f l)))).upd A.cd (ctl H.next) = H2 := ⟨_, rfl⟩
  rw [hH2] at n3 S2
  obtain ⟨H3, n4, S3⟩ := storeI ⟨_, S2⟩ f (i + 1) (by omega)
  have t2 := S2.at f
  obtain ⟨p3, h3⟩ := id S3
  have c3 := h3.ext _ _ hk
  have e0 : ∀ n d t b L, (ev (PgC lf1 lg1) (n + 1) (d)).l t (.lst k 0) b L H = (put (PgC lf1 lg1) (ev (PgC lf1 lg1) (n) (d)) t (.str 329) L H).bind (klo2 (PgC lf1 lg1) n d t (.lst k 1) b) := fun n d t b L => by
    rw [el_it, lst_next c0]; rfl
  have e1 : ∀ n d t b L, (ev (PgC lf1 lg1) (n + 1) (d)).l t (.lst k 1) b L H3 = some (.nxt, L, H3) := fun n d t b L => by
    rw [el_it, lst_next c3]; rfl
  refine ⟨H3, S3, fun n d => ?_⟩
  rw [ec_fn, callF_ _ _ _ zbd rfl rfl]
  by_cases q : l < i + 1
  · rw [if_pos q] at n3 ⊢
    simp only [zdH,zdI,zdJ,zdK,zdL,zdM,zdN,zdO,zdP,zdQ,zc2,zdR,zdS,zdT,zdU,zc3,zdV,zdW,zdX,zdY,zc4,zfP,zfQ,zfR,zfS,zdZ,zd0,zd1,zd2,zd3,zd4,zd5,zd6,zc5,zc6,zd7,zd8,zd9,zea,zeb,zec,zed,zc7,zc8,zee,zhd,zhe,zc9,zda,zdb,zdc,zdd,zde,zfT,zfU,zfV,zef,zeg,zdf,zdg,zdh,zdi,zeh,zei,zfW,zfX,zfY,zdj,zdk,zdl,zdm,zdn,zfZ,zej,zdo,zek,zf0,zf1,zdp,zdq,zdr,zel,zem,zen,zeo,zds,zdt,zdu,zf2,zf3,zep,zf4,zeq,zf5,zf6,zf7,zf8,zf9,zga,zer,zgb,zgc,zgd,zes,zge,zet,zeu,zgf,zev,zgg,zgh,zgi,zew,zgj,zgk,zgl,zgm,zgn,zgo,zex,zgp,zey,zez,zeA,zeB,zeC,zeD,zdv,zeE,zhf,zgq,zeF,zgr,zeG,zgs,zgt,zgu,zgv,zgw,zgx,zeH,zeI,zeJ,zgy,zgz,zeK,zgA,zeL,zeM,zgB,zgC,zhg,za8,zbM,zce,zbN,zcP,zbo,zbO,zbp,zbP,zal,zbq,zbr,zae,zbs,zbt,zbu,zcf,zbQ,za9,zbv,zbw,zaM,zba,zaU,zcz,zaz,zcg,zaq,zaV,zbR,zch,zbb,zbc,zbS,zbx,zaA,zbT,zbU,zci,zbd,zaf,zar,zas,zaa,zat,zaB,zaW,zbe,zbV,zcj,zbW,zcQ,zby,zbX,zbz,zbY,zam,zbA,zbB,zag,zbC,zbD,zbE,zck,zbZ,zbf,zbF,zbG,zaN,zbg,zaX,zcA,zaC,zcl,zau,zaY,zb0,zcm,zbh,zbi,zb1,zbH,zaD,zb2,zb3,zcn,zbj,zah,zav,zaw,zab,zax,zaE,zaZ,za0,za1,zai,zaj,zb4,zb5,zbk,zb6,zbI,zbJ,zco,zaF,zcR,za2,zaG,zan,za3,zaH,zay,zaO,zak,zaI,zaJ,zac,zaK,zaP,zbl,zb7,zdw,zdx,zcB,za4,zbm,zcS,zdy,zdz,zcC,zdA,zeN,zeO,zdB,zdC,zgD,zeP,zeQ,zgE,zeR,zeS,zgF,zgG,zgH,zgI,zgJ,zeT,zeU,zeV,zeW,zeX,zgK,zeY,zeZ,ze0,ze1,ze2,ze3,zgL,zgM,zgN,ze4,zdD,zgO,ze5,ze6,ze7,zgP,zgQ,zgR,zgS,ze8,zgT,ze9,zfa,zfb,zfc,zfd,zfe,zff,zdE,zcT,zcU,zcV,zcD,zcE,zfg,zfh,zfi,zfj,zfk,zgU,zfl,zfm,zfn,zgV,zgW,zgX,zgY,zgZ,zfo,zfp,zfq,zfr,zg0,zg1,zg2,zg3,zfs,zft,zg4,zfu,zfv,zfw,zfx,zfy,zdF,zfz,zfA,zfB,zfC,zfD,zg5,zfE,zg6,zg7,zg8,zg9,zha,zhb,zfF,zfG,zfH,zfI,zhc,zfJ,zfK,zfL,zfM,zfN,zb8,zcF,zcW,zcG,zfO,zcp,zcH,zcq,zcI,zaL,zcr,zcs,zao,zct,zcu,zcv,zcX,zcJ,zb9,zcw,zcx,zbn,zca,zbK,zdG,za5,zcY,zaQ,zbL,zcK,zcZ,zcb,zcc,zcL,zcy,za6,zcM,zcN,zc0,zcd,zap,zaR,zaS,zad,zaT,za7,F_FlowRun_go,if_true,if_false,zhh,zhi,cond_true,cond_false,List.zip,List.zipWith,List.length_cons,List.length_nil,Option.isSome_some,Bool.false_eq_true,reduceIte,reduceCtorEq,Nat.reduceEqDiff,Nat.reduceAdd,Nat.reduceLeDiff,Int.cast_ofNat_Int,decide_true,decide_false,Bool.and_true,Bool.true_and,Bool.and_false,Bool.false_and,Int.sub_zero,Int.reduceNeg,Nat.reduceLT,and_self,and_true,true_and,Bool.false_or,Bool.or_false,Bool.true_or,Bool.or_true,Bool.not_true,Bool.not_false,Int.natAbs_neg,Int.reduceSub,Int.reduceAdd,Int.reduceToNat,Int.natAbs_zero,Int.natAbs_one,Int.reduceLT,Int.reduceLE,Int.reduceGE,Int.reduceGT,decide_eq_true_eq,List.getElem?_cons_zero,List.getElem?_cons_succ,Nat.reduceSub,Int.reduceMul,Nat.reduceBEq,Nat.reducePow,Int.reducePow,and_false,false_and,eq_self,zc1,zcO _ _ zcB,IX,lim,Row.mv,c0,e0,t.control,t.plus,t.mv,n1,n2,n3,t2.ms,n4,e1]
  · rw [if_neg q] at n3 ⊢
    simp only [zdH,zdI,zdJ,zdK,zdL,zdM,zdN,zdO,zdP,zdQ,zc2,zdR,zdS,zdT,zdU,zc3,zdV,zdW,zdX,zdY,zc4,zfP,zfQ,zfR,zfS,zdZ,zd0,zd1,zd2,zd3,zd4,zd5,zd6,zc5,zc6,zd7,zd8,zd9,zea,zeb,zec,zed,zc7,zc8,zee,zhd,zhe,zc9,zda,zdb,zdc,zdd,zde,zfT,zfU,zfV,zef,zeg,zdf,zdg,zdh,zdi,zeh,zei,zfW,zfX,zfY,zdj,zdk,zdl,zdm,zdn,zfZ,zej,zdo,zek,zf0,zf1,zdp,zdq,zdr,zel,zem,zen,zeo,zds,zdt,zdu,zf2,zf3,zep,zf4,zeq,zf5,zf6,zf7,zf8,zf9,zga,zer,zgb,zgc,zgd,zes,zge,zet,zeu,zgf,zev,zgg,zgh,zgi,zew,zgj,zgk,zgl,zgm,zgn,zgo,zex,zgp,zey,zez,zeA,zeB,zeC,zeD,zdv,zeE,zhf,zgq,zeF,zgr,zeG,zgs,zgt,zgu,zgv,zgw,zgx,zeH,zeI,zeJ,zgy,zgz,zeK,zgA,zeL,zeM,zgB,zgC,zhg,za8,zbM,zce,zbN,zcP,zbo,zbO,zbp,zbP,zal,zbq,zbr,zae,zbs,zbt,zbu,zcf,zbQ,za9,zbv,zbw,zaM,zba,zaU,zcz,zaz,zcg,zaq,zaV,zbR,zch,zbb,zbc,zbS,zbx,zaA,zbT,zbU,zci,zbd,zaf,zar,zas,zaa,zat,zaB,zaW,zbe,zbV,zcj,zbW,zcQ,zby,zbX,zbz,zbY,zam,zbA,zbB,zag,zbC,zbD,zbE,zck,zbZ,zbf,zbF,zbG,zaN,zbg,zaX,zcA,zaC,zcl,zau,zaY,zb0,zcm,zbh,zbi,zb1,zbH,zaD,zb2,zb3,zcn,zbj,zah,zav,zaw,zab,zax,zaE,zaZ,za0,za1,zai,zaj,zb4,zb5,zbk,zb6,zbI,zbJ,zco,zaF,zcR,za2,zaG,zan,za3,zaH,zay,zaO,zak,zaI,zaJ,zac,zaK,zaP,zbl,zb7,zdw,zdx,zcB,za4,zbm,zcS,zdy,zdz,zcC,zdA,zeN,zeO,zdB,zdC,zgD,zeP,zeQ,zgE,zeR,zeS,zgF,zgG,zgH,zgI,zgJ,zeT,zeU,zeV,zeW,zeX,zgK,zeY,zeZ,ze0,ze1,ze2,ze3,zgL,zgM,zgN,ze4,zdD,zgO,ze5,ze6,ze7,zgP,zgQ,zgR,zgS,ze8,zgT,ze9,zfa,zfb,zfc,zfd,zfe,zff,zdE,zcT,zcU,zcV,zcD,zcE,zfg,zfh,zfi,zfj,zfk,zgU,zfl,zfm,zfn,zgV,zgW,zgX,zgY,zgZ,zfo,zfp,zfq,zfr,zg0,zg1,zg2,zg3,zfs,zft,zg4,zfu,zfv,zfw,zfx,zfy,zdF,zfz,zfA,zfB,zfC,zfD,zg5,zfE,zg6,zg7,zg8,zg9,zha,zhb,zfF,zfG,zfH,zfI,zhc,zfJ,zfK,zfL,zfM,zfN,zb8,zcF,zcW,zcG,zfO,zcp,zcH,zcq,zcI,zaL,zcr,zcs,zao,zct,zcu,zcv,zcX,zcJ,zb9,zcw,zcx,zbn,zca,zbK,zdG,za5,zcY,zaQ,zbL,zcK,zcZ,zcb,zcc,zcL,zcy,za6,zcM,zcN,zc0,zcd,zap,zaR,zaS,zad,zaT,za7,F_FlowRun_go,if_true,if_false,zhh,zhi,cond_true,cond_false,List.zip,List.zipWith,List.length_cons,List.length_nil,Option.isSome_some,Bool.false_eq_true,reduceIte,reduceCtorEq,Nat.reduceEqDiff,Nat.reduceAdd,Nat.reduceLeDiff,Int.cast_ofNat_Int,decide_true,decide_false,Bool.and_true,Bool.true_and,Bool.and_false,Bool.false_and,Int.sub_zero,Int.reduceNeg,Nat.reduceLT,and_self,and_true,true_and,Bool.false_or,Bool.or_false,Bool.true_or,Bool.or_true,Bool.not_true,Bool.not_false,Int.natAbs_neg,Int.reduceSub,Int.reduceAdd,Int.reduceToNat,Int.natAbs_zero,Int.natAbs_one,Int.reduceLT,Int.reduceLE,Int.reduceGE,Int.reduceGT,decide_eq_true_eq,List.getElem?_cons_zero,List.getElem?_cons_succ,Nat.reduceSub,Int.reduceMul,Nat.reduceBEq,Nat.reducePow,Int.reducePow,and_false,false_and,eq_self,zc1,zcO _ _ zcB,IX,lim,Row.mv,c0,e0,t.control,t.plus,t.mv,n1,n2,n3,t2.ms,n4]
end
end Mn.Mg
end
section
set_option maxRecDepth 100000
namespace Mn.Mg
noncomputable def forR (at_ : Nat) (r : Int) (s : RS) : Pl → Option (Nat × RS)
  | .e => if at_ = 0 ∧ 1 ≤ r then some (1, { s with i := some 1, pile := .f r }) else none
  | _ => none
noncomputable def nextR (at_ : Nat) (s : RS) : Pl → Option Int → Option (Nat × RS)
  | .f l, some i => if 0 ≤ i ∧ i < 90 then some (if l < i + 1 then at_ + 1 else 1, { s with i := some (i + 1), pile := if l < i + 1 then .e else .f l }) else none
  | _, _ => none
noncomputable def subR (at_ : Nat) (s : RS) : Pl → Option (Nat × RS)
  | .f l => if at_ = 1 then some (13, { s with pile := .fg l }) else none
  | _ => none
noncomputable def retR (s : RS) : Pl → Option (Nat × RS)
  | .fg l => some (2, { s with pile := .f l })
  | _ => none
noncomputable def whlR (at_ : Nat) (l : Int) (s : RS) : Option (Nat × RS) := if at_ = 3 then (if s.x < l then some (4, { s with pile := .w }) else some (7, { s with pile := .e })) else none
noncomputable def isEW : Pl → Bool
  | .e => true
  | .w => true
  | _ => false
noncomputable def ongR (s : RS) : Option Int → Option (Nat × RS)
  | some i => if i = 2 then some (16, s) else if i = 3 then some (18, s) else none
  | none => none
noncomputable def isW : Pl → Bool
  | .w => true
  | _ => false
noncomputable def oneRow (at_ : Nat) (s : RS) : Row → Option (Nat × RS)
  | .let_ k => some (at_ + 1, { s with x := s.x + k })
  | .rem w => if s.notes.length + 1 < 1000 then some (at_ + 1, { s with notes := s.notes ++ [nt w s.x] }) else none
  | .end_ => none
  | .for_ r => forR at_ r s s.pile
  | .next _ => nextR at_ s s.pile s.i
  | .sub => subR at_ s s.pile
  | .ret => retR s s.pile
  | .whl l => if isEW s.pile = true then whlR at_ l s else none
  | .wend => if at_ = 6 ∧ isW s.pile = true then some (3, s) else none
  | .ifn p => some (if Int.fmod s.x 2 = 1 then at_ + 1 else p, s)
  | .jump p => some (p, s)
  | .ong _ => ongR s s.i
theorem isEW_inv {q : Pl} (h : isEW q = true) : q = .e ∨ q = .w := by
  cases q <;> first | exact .inl rfl | exact .inr rfl | cases h
theorem isW_inv {q : Pl} (h : isW q = true) : q = .w := by
  cases q <;> first | rfl | cases h
noncomputable def isFlow : Row → Bool
  | .let_ _ => false
  | .rem _ => false
  | .end_ => false
  | _ => true
section
variable {G : Fz} {A : RA} {F : Fl} {p : Nat} {s : RS} {H : MH}
theorem jumpX (at_ : Nat) {r : MV} {rest : List MV} {k : Nat} {H' : MH} (hr : r = .tup (.str k :: rest)) {v : MV} (hk : (1414223777620 == k || (5542071632 == k || (5491348559 == k || (1405785167170 == k || (5625497423 == k || 371932697809486 == k))))) = true)
    (n1 : ∀ n d : Nat, (ev (PgC lf1 lg1) (n + 350) (d + 17)).c (.fn 100327547307650416) [.ref A.r, .int at_, r] H = some (v, H')) : ∀ n d : Nat, (ev (PgC lf1 lg1) (n + 370) (d + 18)).c (.fn 100327547239952247) [.ref A.r, .int at_, r] H = some (v, H') := by
  intro n d
  rw [ec_fn, callF_ _ _ _ zbT rfl rfl]
  rw [hr] at n1 ⊢
  simp only [zdH,zdI,zdJ,zdK,zdL,zdM,zdN,zdO,zdP,zdQ,zc2,zdR,zdS,zdT,zdU,zc3,zdV,zdW,zdX,zdY,zc4,zfP,zfQ,zfR,zfS,zdZ,zd0,zd1,zd2,zd3,zd4,zd5,zd6,zc5,zc6,zd7,zd8,zd9,zea,zeb,zec,zed,zc7,zc8,zee,zhd,zhe,zc9,zda,zdb,zdc,zdd,zde,zfT,zfU,zfV,zef,zeg,zdf,zdg,zdh,zdi,zeh,zei,zfW,zfX,zfY,zdj,zdk,zdl,zdm,zdn,zfZ,zej,zdo,zek,zf0,zf1,zdp,zdq,zdr,zel,zem,zen,zeo,zds,zdt,zdu,zf2,zf3,zep,zf4,zeq,zf5,zf6,zf7,zf8,zf9,zga,zer,zgb,zgc,zgd,zes,zge,zet,zeu,zgf,zev,zgg,zgh,zgi,zew,zgj,zgk,zgl,zgm,zgn,zgo,zex,zgp,zey,zez,zeA,zeB,zeC,zeD,zdv,zeE,zhf,zgq,zeF,zgr,zeG,zgs,zgt,zgu,zgv,zgw,zgx,zeH,zeI,zeJ,zgy,zgz,zeK,zgA,zeL,zeM,zgB,zgC,zhg,za8,zbM,zce,zbN,zcP,zbo,zbO,zbp,zbP,zal,zbq,zbr,zae,zbs,zbt,zbu,zcf,zbQ,za9,zbv,zbw,zaM,zba,zaU,zcz,zaz,zcg,zaq,zaV,zbR,zch,zbb,zbc,zbS,zbx,zaA,zbT,zbU,zci,zbd,zaf,zar,zas,zaa,zat,zaB,zaW,zbe,zbV,zcj,zbW,zcQ,zby,zbX,zbz,zbY,zam,zbA,zbB,zag,zbC,zbD,zbE,zck,zbZ,zbf,zbF,zbG,zaN,zbg,zaX,zcA,zaC,zcl,zau,zaY,zb0,zcm,zbh,zbi,zb1,zbH,zaD,zb2,zb3,zcn,zbj,zah,zav,zaw,zab,zax,zaE,zaZ,za0,za1,zai,zaj,zb4,zb5,zbk,zb6,zbI,zbJ,zco,zaF,zcR,za2,zaG,zan,za3,zaH,zay,zaO,zak,zaI,zaJ,zac,zaK,zaP,zbl,zb7,zdw,zdx,zcB,za4,zbm,zcS,zdy,zdz,zcC,zdA,zeN,zeO,zdB,zdC,zgD,zeP,zeQ,zgE,zeR,zeS,zgF,zgG,zgH,zgI,zgJ,zeT,zeU,zeV,zeW,zeX,zgK,zeY,zeZ,ze0,ze1,ze2,ze3,zgL,zgM,zgN,ze4,zdD,zgO,ze5,ze6,ze7,zgP,zgQ,zgR,zgS,ze8,zgT,ze9,zfa,zfb,zfc,zfd,zfe,zff,zdE,zcT,zcU,zcV,zcD,zcE,zfg,zfh,zfi,zfj,zfk,zgU,zfl,zfm,zfn,zgV,zgW,zgX,zgY,zgZ,zfo,zfp,zfq,zfr,zg0,zg1,zg2,zg3,zfs,zft,zg4,zfu,zfv,zfw,zfx,zfy,zdF,zfz,zfA,zfB,zfC,zfD,zg5,zfE,zg6,zg7,zg8,zg9,zha,zhb,zfF,zfG,zfH,zfI,zhc,zfJ,zfK,zfL,zfM,zfN,zb8,zcF,zcW,zcG,zfO,zcp,zcH,zcq,zcI,zaL,zcr,zcs,zao,zct,zcu,zcv,zcX,zcJ,zb9,zcw,zcx,zbn,zca,zbK,zdG,za5,zcY,zaQ,zbL,zcK,zcZ,zcb,zcc,zcL,zcy,za6,zcM,zcN,zc0,zcd,zap,zaR,zaS,zad,zaT,za7,F_FlowRun_go,if_true,if_false,zhh,zhi,cond_true,cond_false,List.zip,List.zipWith,List.length_cons,List.length_nil,Option.isSome_some,Bool.false_eq_true,reduceIte,reduceCtorEq,Nat.reduceEqDiff,Nat.reduceAdd,Nat.reduceLeDiff,Int.cast_ofNat_Int,decide_true,decide_false,Bool.and_true,Bool.true_and,Bool.and_false,Bool.false_and,Int.sub_zero,Int.reduceNeg,Nat.reduceLT,and_self,and_true,true_and,Bool.false_or,Bool.or_false,Bool.true_or,Bool.or_true,Bool.not_true,Bool.not_false,Int.natAbs_neg,Int.reduceSub,Int.reduceAdd,Int.reduceToNat,Int.natAbs_zero,Int.natAbs_one,Int.reduceLT,Int.reduceLE,Int.reduceGE,Int.reduceGT,decide_eq_true_eq,List.getElem?_cons_zero,List.getElem?_cons_succ,Nat.reduceSub,Int.reduceMul,Nat.reduceBEq,Nat.reducePow,Int.reducePow,and_false,false_and,eq_self,zc1,zcO _ _ zcB,IX,lim,Row.mv,n1,hk]
theorem loopX (at_ : Nat) {r : MV} {rest : List MV} {k : Nat} {H' : MH} (hr : r = .tup (.str k :: rest)) {v : MV} (hk : (1414223777620 == k || (5542071632 == k || (5491348559 == k || (1405785167170 == k || (5625497423 == k || 371932697809486 == k))))) = false)
    (n1 : ∀ n d : Nat, (ev (PgC lf1 lg1) (n + 350) (d + 17)).c (.fn 100327547340812144) [.ref A.r, .int at_, r] H = some (v, H')) : ∀ n d : Nat, (ev (PgC lf1 lg1) (n + 370) (d + 18)).c (.fn 100327547239952247) [.ref A.r, .int at_, r] H = some (v, H') := by
  intro n d
  rw [ec_fn, callF_ _ _ _ zbT rfl rfl]
  rw [hr] at n1 ⊢
  simp only [zdH,zdI,zdJ,zdK,zdL,zdM,zdN,zdO,zdP,zdQ,zc2,zdR,zdS,zdT,zdU,zc3,zdV,zdW,zdX,zdY,zc4,zfP,zfQ,zfR,zfS,zdZ,zd0,zd1,zd2,zd3,zd4,zd5,zd6,zc5,zc6,zd7,zd8,zd9,zea,zeb,zec,zed,zc7,zc8,zee,zhd,zhe,zc9,zda,zdb,zdc,zdd,zde,zfT,zfU,zfV,zef,zeg,zdf,zdg,zdh,zdi,zeh,zei,zfW,zfX,zfY,zdj,zdk,zdl,zdm,zdn,zfZ,zej,zdo,zek,zf0,zf1,zdp,zdq,zdr,zel,zem,zen,zeo,zds,zdt,zdu,zf2,zf3,zep,zf4,zeq,zf5,zf6,zf7,zf8,zf9,zga,zer,zgb,zgc,zgd,zes,zge,zet,zeu,zgf,zev,zgg,zgh,zgi,zew,zgj,zgk,zgl,zgm,zgn,zgo,zex,zgp,zey,zez,zeA,zeB,zeC,zeD,zdv,zeE,zhf,zgq,zeF,zgr,zeG,zgs,zgt,zgu,zgv,zgw,zgx,zeH,zeI,zeJ,zgy,zgz,zeK,zgA,zeL,zeM,zgB,zgC,zhg,za8,zbM,zce,zbN,zcP,zbo,zbO,zbp,zbP,zal,zbq,zbr,zae,zbs,zbt,zbu,zcf,zbQ,za9,zbv,zbw,zaM,zba,zaU,zcz,zaz,zcg,zaq,zaV,zbR,zch,zbb,zbc,zbS,zbx,zaA,zbT,zbU,zci,zbd,zaf,zar,zas,zaa,zat,zaB,zaW,zbe,zbV,zcj,zbW,zcQ,zby,zbX,zbz,zbY,zam,zbA,zbB,zag,zbC,zbD,zbE,zck,zbZ,zbf,zbF,zbG,zaN,zbg,zaX,zcA,zaC,zcl,zau,zaY,zb0,zcm,zbh,zbi,zb1,zbH,zaD,zb2,zb3,zcn,zbj,zah,zav,zaw,zab,zax,zaE,zaZ,za0,za1,zai,zaj,zb4,zb5,zbk,zb6,zbI,zbJ,zco,zaF,zcR,za2,zaG,zan,za3,zaH,zay,zaO,zak,zaI,zaJ,zac,zaK,zaP,zbl,zb7,zdw,zdx,zcB,za4,zbm,zcS,zdy,zdz,zcC,zdA,zeN,zeO,zdB,zdC,zgD,zeP,zeQ,zgE,zeR,zeS,zgF,zgG,zgH,zgI,zgJ,zeT,zeU,zeV,zeW,zeX,zgK,zeY,zeZ,ze0,ze1,ze2,ze3,zgL,zgM,zgN,ze4,zdD,zgO,ze5,ze6,ze7,zgP,zgQ,zgR,zgS,ze8,zgT,ze9,zfa,zfb,zfc,zfd,zfe,zff,zdE,zcT,zcU,zcV,zcD,zcE,zfg,zfh,zfi,zfj,zfk,zgU,zfl,zfm,zfn,zgV,zgW,zgX,zgY,zgZ,zfo,zfp,zfq,zfr,zg0,zg1,zg2,zg3,zfs,zft,zg4,zfu,zfv,zfw,zfx,zfy,zdF,zfz,zfA,zfB,zfC,zfD,zg5,zfE,zg6,zg7,zg8,zg9,zha,zhb,zfF,zfG,zfH,zfI,zhc,zfJ,zfK,zfL,zfM,zfN,zb8,zcF,zcW,zcG,zfO,zcp,zcH,zcq,zcI,zaL,zcr,zcs,zao,zct,zcu,zcv,zcX,zcJ,zb9,zcw,zcx,zbn,zca,zbK,zdG,za5,zcY,zaQ,zbL,zcK,zcZ,zcb,zcc,zcL,zcy,za6,zcM,zcN,zc0,zcd,zap,zaR,zaS,zad,zaT,za7,F_FlowRun_go,if_true,if_false,zhh,zhi,cond_true,cond_false,List.zip,List.zipWith,List.length_cons,List.length_nil,Option.isSome_some,Bool.false_eq_true,reduceIte,reduceCtorEq,Nat.reduceEqDiff,Nat.reduceAdd,Nat.reduceLeDiff,Int.cast_ofNat_Int,decide_true,decide_false,Bool.and_true,Bool.true_and,Bool.and_false,Bool.false_and,Int.sub_zero,Int.reduceNeg,Nat.reduceLT,and_self,and_true,true_and,Bool.false_or,Bool.or_false,Bool.true_or,Bool.or_true,Bool.not_true,Bool.not_false,Int.natAbs_neg,Int.reduceSub,Int.reduceAdd,Int.reduceToNat,Int.natAbs_zero,Int.natAbs_one,Int.reduceLT,Int.reduceLE,Int.reduceGE,Int.reduceGT,decide_eq_true_eq,List.getElem?_cons_zero,List.getElem?_cons_succ,Nat.reduceSub,Int.reduceMul,Nat.reduceBEq,Nat.reducePow,Int.reducePow,and_false,false_and,eq_self,zc1,zcO _ _ zcB,IX,lim,Row.mv,n1,hk]
theorem forX (h : Sx G A s H) (f : RFix G A F) (r : Int) (hr : 1 ≤ r) (hp : s.pile = .e) : ∃ H', Sx G A { s with i := some 1, pile := .f r } H' ∧ ∀ n d : Nat, (ev (PgC lf1 lg1) (n + 350) (d + 17)).c (.fn 100327547340812144) [.ref A.r, .int 0, (Row.for_ r).mv] H = some (.int 1, H') := by
  obtain ⟨H', S', n1⟩ := dofor_ok h f r hr hp
  refine ⟨H', S', fun n d => ?_⟩
  rw [ec_fn, callF_ _ _ _ zbU rfl rfl]
  simp only [Row.mv] at n1
  simp only [zdH,zdI,zdJ,zdK,zdL,zdM,zdN,zdO,zdP,zdQ,zc2,zdR,zdS,zdT,zdU,zc3,zdV,zdW,zdX,zdY,zc4,zfP,zfQ,zfR,zfS,zdZ,zd0,zd1,zd2,zd3,zd4,zd5,zd6,zc5,zc6,zd7,zd8,zd9,zea,zeb,zec,zed,zc7,zc8,zee,zhd,zhe,zc9,zda,zdb,zdc,zdd,zde,zfT,zfU,zfV,zef,zeg,zdf,zdg,zdh,zdi,zeh,zei,zfW,zfX,zfY,zdj,zdk,zdl,zdm,zdn,zfZ,zej,zdo,zek,zf0,zf1,zdp,zdq,zdr,zel,zem,zen,zeo,zds,zdt,zdu,zf2,zf3,zep,zf4,zeq,zf5,zf6,zf7,zf8,zf9,zga,zer,zgb,zgc,zgd,zes,zge,zet,zeu,zgf,zev,zgg,zgh,zgi,zew,zgj,zgk,zgl,zgm,zgn,zgo,zex,zgp,zey,zez,zeA,zeB,zeC,zeD,zdv,zeE,zhf,zgq,zeF,zgr,zeG,zgs,zgt,zgu,zgv,zgw,zgx,zeH,zeI,zeJ,zgy,zgz,zeK,zgA,zeL,zeM,zgB,zgC,zhg,za8,zbM,zce,zbN,zcP,zbo,zbO,zbp,zbP,zal,zbq,zbr,zae,zbs,zbt,zbu,zcf,zbQ,za9,zbv,zbw,zaM,zba,zaU,zcz,zaz,zcg,zaq,zaV,zbR,zch,zbb,zbc,zbS,zbx,zaA,zbT,zbU,zci,zbd,zaf,zar,zas,zaa,zat,zaB,zaW,zbe,zbV,zcj,zbW,zcQ,zby,zbX,zbz,zbY,zam,zbA,zbB,zag,zbC,zbD,zbE,zck,zbZ,zbf,zbF,zbG,zaN,zbg,zaX,zcA,zaC,zcl,zau,zaY,zb0,zcm,zbh,zbi,zb1,zbH,zaD,zb2,zb3,zcn,zbj,zah,zav,zaw,zab,zax,zaE,zaZ,za0,za1,zai,zaj,zb4,zb5,zbk,zb6,zbI,zbJ,zco,zaF,zcR,za2,zaG,zan,za3,zaH,zay,zaO,zak,zaI,zaJ,zac,zaK,zaP,zbl,zb7,zdw,zdx,zcB,za4,zbm,zcS,zdy,zdz,zcC,zdA,zeN,zeO,zdB,zdC,zgD,zeP,zeQ,zgE,zeR,zeS,zgF,zgG,zgH,zgI,zgJ,zeT,zeU,zeV,zeW,zeX,zgK,zeY,zeZ,ze0,ze1,ze2,ze3,zgL,zgM,zgN,ze4,zdD,zgO,ze5,ze6,ze7,zgP,zgQ,zgR,zgS,ze8,zgT,ze9,zfa,zfb,zfc,zfd,zfe,zff,zdE,zcT,zcU,zcV,zcD,zcE,zfg,zfh,zfi,zfj,zfk,zgU,zfl,zfm,zfn,zgV,zgW,zgX,zgY,zgZ,zfo,zfp,zfq,zfr,zg0,zg1,zg2,zg3,zfs,zft,zg4,zfu,zfv,zfw,zfx,zfy,zdF,zfz,zfA,zfB,zfC,zfD,zg5,zfE,zg6,zg7,zg8,zg9,zha,zhb,zfF,zfG,zfH,zfI,zhc,zfJ,zfK,zfL,zfM,zfN,zb8,zcF,zcW,zcG,zfO,zcp,zcH,zcq,zcI,zaL,zcr,zcs,zao,zct,zcu,zcv,zcX,zcJ,zb9,zcw,zcx,zbn,zca,zbK,zdG,za5,zcY,zaQ,zbL,zcK,zcZ,zcb,zcc,zcL,zcy,za6,zcM,zcN,zc0,zcd,zap,zaR,zaS,zad,zaT,za7,F_FlowRun_go,if_true,if_false,zhh,zhi,cond_true,cond_false,List.zip,List.zipWith,List.length_cons,List.length_nil,Option.isSome_some,Bool.false_eq_true,reduceIte,reduceCtorEq,Nat.reduceEqDiff,Nat.reduceAdd,Nat.reduceLeDiff,Int.cast_ofNat_Int,decide_true,decide_false,Bool.and_true,Bool.true_and,Bool.and_false,Bool.false_and,Int.sub_zero,Int.reduceNeg,Nat.reduceLT,and_self,and_true,true_and,Bool.false_or,Bool.or_false,Bool.true_or,Bool.or_true,Bool.not_true,Bool.not_false,Int.natAbs_neg,Int.reduceSub,Int.reduceAdd,Int.reduceToNat,Int.natAbs_zero,Int.natAbs_one,Int.reduceLT,Int.reduceLE,Int.reduceGE,Int.reduceGT,decide_eq_true_eq,List.getElem?_cons_zero,List.getElem?_cons_succ,Nat.reduceSub,Int.reduceMul,Nat.reduceBEq,Nat.reducePow,Int.reducePow,and_false,false_and,eq_self,zc1,zcO _ _ zcB,IX,lim,Row.mv,n1]
theorem nextX (h : Sx G A s H) (f : RFix G A F) (k : Nat) (ok : (Row.next k).ok G) (at_ : Nat) (l i : Int) (hp : s.pile = .f l) (hi : s.i = some i) (h90 : 0 ≤ i ∧ i < 90) :
    ∃ H', Sx G A { s with i := some (i + 1), pile := if l < i + 1 then .e else .f l } H' ∧ ∀ n d : Nat, (ev (PgC lf1 lg1) (n + 350) (d + 17)).c (.fn 100327547340812144) [.ref A.r, .int (at_ : Int), (Row.next k).mv] H = some (.int ((if l < i + 1 then at_ + 1 else 1 : Nat) : Int), H') := by
  obtain ⟨H', S', n1⟩ := nextf_ok h f k ok (at_ : Int) l i hp hi h90
  refine ⟨H', S', fun n d => ?_⟩
  obtain ⟨p, h'⟩ := h
  have c0 := h'.ext _ _ (show G k = some (.list [.str 329]) from ok)
  rw [ec_fn, callF_ _ _ _ zbU rfl rfl]
  rw [show ((if l < i + 1 then at_ + 1 else 1 : Nat) : Int) = if l < i + 1 then (at_ : Int) + 1 else 1 by split <;> rfl]
  simp only [zdH,zdI,zdJ,zdK,zdL,zdM,zdN,zdO,zdP,zdQ,zc2,zdR,zdS,zdT,zdU,zc3,zdV,zdW,zdX,zdY,zc4,zfP,zfQ,zfR,zfS,zdZ,zd0,zd1,zd2,zd3,zd4,zd5,zd6,zc5,zc6,zd7,zd8,zd9,zea,zeb,zec,zed,zc7,zc8,zee,zhd,zhe,zc9,zda,zdb,zdc,zdd,zde,zfT,zfU,zfV,zef,zeg,zdf,zdg,zdh,zdi,zeh,zei,zfW,zfX,zfY,zdj,zdk,zdl,zdm,zdn,zfZ,zej,zdo,zek,zf0,zf1,zdp,zdq,zdr,zel,zem,zen,zeo,zds,zdt,zdu,zf2,zf3,zep,zf4,zeq,zf5,zf6,zf7,zf8,zf9,zga,zer,zgb,zgc,zgd,zes,zge,zet,zeu,zgf,zev,zgg,zgh,zgi,zew,zgj,zgk,zgl,zgm,zgn,zgo,zex,zgp,zey,zez,zeA,zeB,zeC,zeD,zdv,zeE,zhf,zgq,zeF,zgr,zeG,zgs,zgt,zgu,zgv,zgw,zgx,zeH,zeI,zeJ,zgy,zgz,zeK,zgA,zeL,zeM,zgB,zgC,zhg,za8,zbM,zce,zbN,zcP,zbo,zbO,zbp,zbP,zal,zbq,zbr,zae,zbs,zbt,zbu,zcf,zbQ,za9,zbv,zbw,zaM,zba,zaU,zcz,zaz,zcg,zaq,zaV,zbR,zch,zbb,zbc,zbS,zbx,zaA,zbT,zbU,zci,zbd,zaf,zar,zas,zaa,zat,zaB,zaW,zbe,zbV,zcj,zbW,zcQ,zby,zbX,zbz,zbY,zam,zbA,zbB,zag,zbC,zbD,zbE,zck,zbZ,zbf,zbF,zbG,zaN,zbg,zaX,zcA,zaC,zcl,zau,zaY,zb0,zcm,zbh,zbi,zb1,zbH,zaD,zb2,zb3,zcn,zbj,zah,zav,zaw,zab,zax,zaE,zaZ,za0,za1,zai,zaj,zb4,zb5,zbk,zb6,zbI,zbJ,zco,zaF,zcR,za2,zaG,zan,za3,zaH,zay,zaO,zak,zaI,zaJ,zac,zaK,zaP,zbl,zb7,zdw,zdx,zcB,za4,zbm,zcS,zdy,zdz,zcC,zdA,zeN,zeO,zdB,zdC,zgD,zeP,zeQ,zgE,zeR,zeS,zgF,zgG,zgH,zgI,zgJ,zeT,zeU,zeV,zeW,zeX,zgK,zeY,zeZ,ze0,ze1,ze2,ze3,zgL,zgM,zgN,ze4,zdD,zgO,ze5,ze6,ze7,zgP,zgQ,zgR,zgS,ze8,zgT,ze9,zfa,zfb,zfc,zfd,zfe,zff,zdE,zcT,zcU,zcV,zcD,zcE,zfg,zfh,zfi,zfj,zfk,zgU,zfl,zfm,zfn,zgV,zgW,zgX,zgY,zgZ,zfo,zfp,zfq,zfr,zg0,zg1,zg2,zg3,zfs,zft,zg4,zfu,zfv,zfw,zfx,zfy,zdF,zfz,zfA,zfB,zfC,zfD,zg5,zfE,zg6,zg7,zg8,zg9,zha,zhb,zfF,zfG,zfH,zfI,zhc,zfJ,zfK,zfL,zfM,zfN,zb8,zcF,zcW,zcG,zfO,zcp,zcH,zcq,zcI,zaL,zcr,zcs,zao,zct,zcu,zcv,zcX,zcJ,zb9,zcw,zcx,zbn,zca,zbK,zdG,za5,zcY,zaQ,zbL,zcK,zcZ,zcb,zcc,zcL,zcy,za6,zcM,zcN,zc0,zcd,zap,zaR,zaS,zad,zaT,za7,F_FlowRun_go,if_true,if_false,zhh,zhi,cond_true,cond_false,List.zip,List.zipWith,List.length_cons,List.length_nil,Option.isSome_some,Bool.false_eq_true,reduceIte,reduceCtorEq,Nat.reduceEqDiff,Nat.reduceAdd,Nat.reduceLeDiff,Int.cast_ofNat_Int,decide_true,decide_false,Bool.and_true,Bool.true_and,Bool.and_false,Bool.false_and,Int.sub_zero,Int.reduceNeg,Nat.reduceLT,and_self,and_true,true_and,Bool.false_or,Bool.or_false,Bool.true_or,Bool.or_true,Bool.not_true,Bool.not_false,Int.natAbs_neg,Int.reduceSub,Int.reduceAdd,Int.reduceToNat,Int.natAbs_zero,Int.natAbs_one,Int.reduceLT,Int.reduceLE,Int.reduceGE,Int.reduceGT,decide_eq_true_eq,List.getElem?_cons_zero,List.getElem?_cons_succ,Nat.reduceSub,Int.reduceMul,Nat.reduceBEq,Nat.reducePow,Int.reducePow,and_false,false_and,eq_self,zc1,zcO _ _ zcB,IX,lim,Row.mv,c0,n1]
theorem whlX (h : Sx G A s H) (f : RFix G A F) (l : Int) (hp : s.pile = .e ∨ s.pile = .w) : ∃ H', Sx G A { s with pile := if s.x < l then .w else .e } H' ∧ ∀ n d : Nat, (ev (PgC lf1 lg1) (n + 350) (d + 17)).c (.fn 100327547340812144) [.ref A.r, .int 3, (Row.whl l).mv] H = some (.int (if s.x < l then 4 else 7), H') := by
  obtain ⟨p, h'⟩ := id h
  have t := h'.at f
  have n1 := worth_ok h f (.tup [.str 1522120028023, .int l]) (w_below l t.va)
  by_cases q : s.x < l
  · obtain ⟨H', S', n2⟩ := wbeg_ok h' f hp
    rw [if_pos q, if_pos q]
    refine ⟨H', S', fun n d => ?_⟩
    rw [ec_fn, callF_ _ _ _ zbU rfl rfl]
    rw [if_pos q] at n1
    simp only [zdH,zdI,zdJ,zdK,zdL,zdM,zdN,zdO,zdP,zdQ,zc2,zdR,zdS,zdT,zdU,zc3,zdV,zdW,zdX,zdY,zc4,zfP,zfQ,zfR,zfS,zdZ,zd0,zd1,zd2,zd3,zd4,zd5,zd6,zc5,zc6,zd7,zd8,zd9,zea,zeb,zec,zed,zc7,zc8,zee,zhd,zhe,zc9,zda,zdb,zdc,zdd,zde,zfT,zfU,zfV,zef,zeg,zdf,zdg,zdh,zdi,zeh,zei,zfW,zfX,zfY,zdj,zdk,zdl,zdm,zdn,zfZ,zej,zdo,zek,zf0,zf1,zdp,zdq,zdr,zel,zem,zen,zeo,zds,zdt,zdu,zf2,zf3,zep,zf4,zeq,zf5,zf6,zf7,zf8,zf9,zga,zer,zgb,zgc,zgd,zes,zge,zet,zeu,zgf,zev,zgg,zgh,zgi,zew,zgj,zgk,zgl,zgm,zgn,zgo,zex,zgp,zey,zez,zeA,zeB,zeC,zeD,zdv,zeE,zhf,zgq,zeF,zgr,zeG,zgs,zgt,zgu,zgv,zgw,zgx,zeH,zeI,zeJ,zgy,zgz,zeK,zgA,zeL,zeM,zgB,zgC,zhg,za8,zbM,zce,zbN,zcP,zbo,zbO,zbp,zbP,zal,zbq,zbr,zae,zbs,zbt,zbu,zcf,zbQ,za9,zbv,zbw,zaM,zba,zaU,zcz,zaz,zcg,zaq,zaV,zbR,zch,zbb,zbc,zbS,zbx,zaA,zbT,zbU,zci,zbd,zaf,zar,zas,zaa,zat,zaB,zaW,zbe,zbV,zcj,zbW,zcQ,zby,zbX,zbz,zbY,zam,zbA,zbB,zag,zbC,zbD,zbE,zck,zbZ,zbf,zbF,zbG,zaN,zbg,zaX,zcA,zaC,zcl,zau,zaY,zb0,zcm,zbh,zbi,zb1,zbH,zaD,zb2,zb3,zcn,zbj,zah,zav,zaw,zab,zax,zaE,zaZ,za0,za1,zai,zaj,zb4,zb5,zbk,zb6,zbI,zbJ,zco,zaF,zcR,za2,zaG,zan,za3,zaH,zay,zaO,zak,zaI,zaJ,zac,zaK,zaP,zbl,zb7,zdw,zdx,zcB,za4,zbm,zcS,zdy,zdz,zcC,zdA,zeN,zeO,zdB,zdC,zgD,zeP,zeQ,zgE,zeR,zeS,zgF,zgG,zgH,zgI,zgJ,zeT,zeU,zeV,zeW,zeX,zgK,zeY,zeZ,ze0,ze1,ze2,ze3,zgL,zgM,zgN,ze4,zdD,zgO,ze5,ze6,ze7,zgP,zgQ,zgR,zgS,ze8,zgT,ze9,zfa,zfb,zfc,zfd,zfe,zff,zdE,zcT,zcU,zcV,zcD,zcE,zfg,zfh,zfi,zfj,zfk,zgU,zfl,zfm,zfn,zgV,zgW,zgX,zgY,zgZ,zfo,zfp,zfq,zfr,zg0,zg1,zg2,zg3,zfs,zft,zg4,zfu,zfv,zfw,zfx,zfy,zdF,zfz,zfA,zfB,zfC,zfD,zg5,zfE,zg6,zg7,zg8,zg9,zha,zhb,zfF,zfG,zfH,zfI,zhc,zfJ,zfK,zfL,zfM,zfN,zb8,zcF,zcW,zcG,zfO,zcp,zcH,zcq,zcI,zaL,zcr,zcs,zao,zct,zcu,zcv,zcX,zcJ,zb9,zcw,zcx,zbn,zca,zbK,zdG,za5,zcY,zaQ,zbL,zcK,zcZ,zcb,zcc,zcL,zcy,za6,zcM,zcN,zc0,zcd,zap,zaR,zaS,zad,zaT,za7,F_FlowRun_go,if_true,if_false,zhh,zhi,cond_true,cond_false,List.zip,List.zipWith,List.length_cons,List.length_nil,Option.isSome_some,Bool.false_eq_true,reduceIte,reduceCtorEq,Nat.reduceEqDiff,Nat.reduceAdd,Nat.reduceLeDiff,Int.cast_ofNat_Int,decide_true,decide_false,Bool.and_true,Bool.true_and,Bool.and_false,Bool.false_and,Int.sub_zero,Int.reduceNeg,Nat.reduceLT,and_self,and_true,true_and,Bool.false_or,Bool.or_false,Bool.true_or,Bool.or_true,Bool.not_true,Bool.not_false,Int.natAbs_neg,Int.reduceSub,Int.reduceAdd,Int.reduceToNat,Int.natAbs_zero,Int.natAbs_one,Int.reduceLT,Int.reduceLE,Int.reduceGE,Int.reduceGT,decide_eq_true_eq,List.getElem?_cons_zero,List.getElem?_cons_succ,Nat.reduceSub,Int.reduceMul,Nat.reduceBEq,Nat.reducePow,Int.reducePow,and_false,false_and,eq_self,zc1,zcO _ _ zcB,IX,lim,Row.mv,t.mw,t.control,n1,true_ok,n2,Int.reduceEq]
  · obtain ⟨H', S', n2⟩ := wend_ok h' f hp
    rw [if_neg q, if_neg q]
    refine ⟨H', S', fun n d => ?_⟩
    rw [ec_fn, callF_ _ _ _ zbU rfl rfl]
    rw [if_neg q] at n1
    obtain ⟨p', h''⟩ := id S'
    have t' := h''.at f
    have n3 := eow_ok S' f 3 6 rfl rfl
    simp only [zdH,zdI,zdJ,zdK,zdL,zdM,zdN,zdO,zdP,zdQ,zc2,zdR,zdS,zdT,zdU,zc3,zdV,zdW,zdX,zdY,zc4,zfP,zfQ,zfR,zfS,zdZ,zd0,zd1,zd2,zd3,zd4,zd5,zd6,zc5,zc6,zd7,zd8,zd9,zea,zeb,zec,zed,zc7,zc8,zee,zhd,zhe,zc9,zda,zdb,zdc,zdd,zde,zfT,zfU,zfV,zef,zeg,zdf,zdg,zdh,zdi,zeh,zei,zfW,zfX,zfY,zdj,zdk,zdl,zdm,zdn,zfZ,zej,zdo,zek,zf0,zf1,zdp,zdq,zdr,zel,zem,zen,zeo,zds,zdt,zdu,zf2,zf3,zep,zf4,zeq,zf5,zf6,zf7,zf8,zf9,zga,zer,zgb,zgc,zgd,zes,zge,zet,zeu,zgf,zev,zgg,zgh,zgi,zew,zgj,zgk,zgl,zgm,zgn,zgo,zex,zgp,zey,zez,zeA,zeB,zeC,zeD,zdv,zeE,zhf,zgq,zeF,zgr,zeG,zgs,zgt,zgu,zgv,zgw,zgx,zeH,zeI,zeJ,zgy,zgz,zeK,zgA,zeL,zeM,zgB,zgC,zhg,za8,zbM,zce,zbN,zcP,zbo,zbO,zbp,zbP,zal,zbq,zbr,zae,zbs,zbt,zbu,zcf,zbQ,za9,zbv,zbw,zaM,zba,zaU,zcz,zaz,zcg,zaq,zaV,zbR,zch,zbb,zbc,zbS,zbx,zaA,zbT,zbU,zci,zbd,zaf,zar,zas,zaa,zat,zaB,zaW,zbe,zbV,zcj,zbW,zcQ,zby,zbX,zbz,zbY,zam,zbA,zbB,zag,zbC,zbD,zbE,zck,zbZ,zbf,zbF,zbG,zaN,zbg,zaX,zcA,zaC,zcl,zau,zaY,zb0,zcm,zbh,zbi,zb1,zbH,zaD,zb2,zb3,zcn,zbj,zah,zav,zaw,zab,zax,zaE,zaZ,za0,za1,zai,zaj,zb4,zb5,zbk,zb6,zbI,zbJ,zco,zaF,zcR,za2,zaG,zan,za3,zaH,zay,zaO,zak,zaI,zaJ,zac,zaK,zaP,zbl,zb7,zdw,zdx,zcB,za4,zbm,zcS,zdy,zdz,zcC,zdA,zeN,zeO,zdB,zdC,zgD,zeP,zeQ,zgE,zeR,zeS,zgF,zgG,zgH,zgI,zgJ,zeT,zeU,zeV,zeW,zeX,zgK,zeY,zeZ,ze0,ze1,ze2,ze3,zgL,zgM,zgN,ze4,zdD,zgO,ze5,ze6,ze7,zgP,zgQ,zgR,zgS,ze8,zgT,ze9,zfa,zfb,zfc,zfd,zfe,zff,zdE,zcT,zcU,zcV,zcD,zcE,zfg,zfh,zfi,zfj,zfk,zgU,zfl,zfm,zfn,zgV,zgW,zgX,zgY,zgZ,zfo,zfp,zfq,zfr,zg0,zg1,zg2,zg3,zfs,zft,zg4,zfu,zfv,zfw,zfx,zfy,zdF,zfz,zfA,zfB,zfC,zfD,zg5,zfE,zg6,zg7,zg8,zg9,zha,zhb,zfF,zfG,zfH,zfI,zhc,zfJ,zfK,zfL,zfM,zfN,zb8,zcF,zcW,zcG,zfO,zcp,zcH,zcq,zcI,zaL,zcr,zcs,zao,zct,zcu,zcv,zcX,zcJ,zb9,zcw,zcx,zbn,zca,zbK,zdG,za5,zcY,zaQ,zbL,zcK,zcZ,zcb,zcc,zcL,zcy,za6,zcM,zcN,zc0,zcd,zap,zaR,zaS,zad,zaT,za7,F_FlowRun_go,if_true,if_false,zhh,zhi,cond_true,cond_false,List.zip,List.zipWith,List.length_cons,List.length_nil,Option.isSome_some,Bool.false_eq_true,reduceIte,reduceCtorEq,Nat.reduceEqDiff,Nat.reduceAdd,Nat.reduceLeDiff,Int.cast_ofNat_Int,decide_true,decide_false,Bool.and_true,Bool.true_and,Bool.and_false,Bool.false_and,Int.sub_zero,Int.reduceNeg,Nat.reduceLT,and_self,and_true,true_and,Bool.false_or,Bool.or_false,Bool.true_or,Bool.or_true,Bool.not_true,Bool.not_false,Int.natAbs_neg,Int.reduceSub,Int.reduceAdd,Int.reduceToNat,Int.natAbs_zero,Int.natAbs_one,Int.reduceLT,Int.reduceLE,Int.reduceGE,Int.reduceGT,decide_eq_true_eq,List.getElem?_cons_zero,List.getElem?_cons_succ,Nat.reduceSub,Int.reduceMul,Nat.reduceBEq,Nat.reducePow,Int.reducePow,and_false,false_and,eq_self,zc1,zcO _ _ zcB,IX,lim,Row.mv,t.mw,t.control,n1,true_ok,n2,t'.flat,n3]
theorem wendX (h : Sx G A s H) (f : RFix G A F) (hp : s.pile = .w) : ∃ H', Sx G A s H' ∧ ∀ n d : Nat, (ev (PgC lf1 lg1) (n + 350) (d + 17)).c (.fn 100327547340812144) [.ref A.r, .int 6, Row.wend.mv] H = some (.int 3, H') := by
  obtain ⟨p, h'⟩ := id h
  have t := h'.at f
  have n1 := eow_ok h f 6 3 rfl rfl
  obtain ⟨H', S', n2⟩ := wplace_ok h' f hp
  refine ⟨H', S', fun n d => ?_⟩
  rw [ec_fn, callF_ _ _ _ zbU rfl rfl]
  simp only [zdH,zdI,zdJ,zdK,zdL,zdM,zdN,zdO,zdP,zdQ,zc2,zdR,zdS,zdT,zdU,zc3,zdV,zdW,zdX,zdY,zc4,zfP,zfQ,zfR,zfS,zdZ,zd0,zd1,zd2,zd3,zd4,zd5,zd6,zc5,zc6,zd7,zd8,zd9,zea,zeb,zec,zed,zc7,zc8,zee,zhd,zhe,zc9,zda,zdb,zdc,zdd,zde,zfT,zfU,zfV,zef,zeg,zdf,zdg,zdh,zdi,zeh,zei,zfW,zfX,zfY,zdj,zdk,zdl,zdm,zdn,zfZ,zej,zdo,zek,zf0,zf1,zdp,zdq,zdr,zel,zem,zen,zeo,zds,zdt,zdu,zf2,zf3,zep,zf4,zeq,zf5,zf6,zf7,zf8,zf9,zga,zer,zgb,zgc,zgd,zes,zge,zet,zeu,zgf,zev,zgg,zgh,zgi,zew,zgj,zgk,zgl,zgm,zgn,zgo,zex,zgp,zey,zez,zeA,zeB,zeC,zeD,zdv,zeE,zhf,zgq,zeF,zgr,zeG,zgs,zgt,zgu,zgv,zgw,zgx,zeH,zeI,zeJ,zgy,zgz,zeK,zgA,zeL,zeM,zgB,zgC,zhg,za8,zbM,zce,zbN,zcP,zbo,zbO,zbp,zbP,zal,zbq,zbr,zae,zbs,zbt,zbu,zcf,zbQ,za9,zbv,zbw,zaM,zba,zaU,zcz,zaz,zcg,zaq,zaV,zbR,zch,zbb,zbc,zbS,zbx,zaA,zbT,zbU,zci,zbd,zaf,zar,zas,zaa,zat,zaB,zaW,zbe,zbV,zcj,zbW,zcQ,zby,zbX,zbz,zbY,zam,zbA,zbB,zag,zbC,zbD,zbE,zck,zbZ,zbf,zbF,zbG,zaN,zbg,zaX,zcA,zaC,zcl,zau,zaY,zb0,zcm,zbh,zbi,zb1,zbH,zaD,zb2,zb3,zcn,zbj,zah,zav,zaw,zab,zax,zaE,zaZ,za0,za1,zai,zaj,zb4,zb5,zbk,zb6,zbI,zbJ,zco,zaF,zcR,za2,zaG,zan,za3,zaH,zay,zaO,zak,zaI,zaJ,zac,zaK,zaP,zbl,zb7,zdw,zdx,zcB,za4,zbm,zcS,zdy,zdz,zcC,zdA,zeN,zeO,zdB,zdC,zgD,zeP,zeQ,zgE,zeR,zeS,zgF,zgG,zgH,zgI,zgJ,zeT,zeU,zeV,zeW,zeX,zgK,zeY,zeZ,ze0,ze1,ze2,ze3,zgL,zgM,zgN,ze4,zdD,zgO,ze5,ze6,ze7,zgP,zgQ,zgR,zgS,ze8,zgT,ze9,zfa,zfb,zfc,zfd,zfe,zff,zdE,zcT,zcU,zcV,zcD,zcE,zfg,zfh,zfi,zfj,zfk,zgU,zfl,zfm,zfn,zgV,zgW,zgX,zgY,zgZ,zfo,zfp,zfq,zfr,zg0,zg1,zg2,zg3,zfs,zft,zg4,zfu,zfv,zfw,zfx,zfy,zdF,zfz,zfA,zfB,zfC,zfD,zg5,zfE,zg6,zg7,zg8,zg9,zha,zhb,zfF,zfG,zfH,zfI,zhc,zfJ,zfK,zfL,zfM,zfN,zb8,zcF,zcW,zcG,zfO,zcp,zcH,zcq,zcI,zaL,zcr,zcs,zao,zct,zcu,zcv,zcX,zcJ,zb9,zcw,zcx,zbn,zca,zbK,zdG,za5,zcY,zaQ,zbL,zcK,zcZ,zcb,zcc,zcL,zcy,za6,zcM,zcN,zc0,zcd,zap,zaR,zaS,zad,zaT,za7,F_FlowRun_go,if_true,if_false,zhh,zhi,cond_true,cond_false,List.zip,List.zipWith,List.length_cons,List.length_nil,Option.isSome_some,Bool.false_eq_true,reduceIte,reduceCtorEq,Nat.reduceEqDiff,Nat.reduceAdd,Nat.reduceLeDiff,Int.cast_ofNat_Int,decide_true,decide_false,Bool.and_true,Bool.true_and,Bool.and_false,Bool.false_and,Int.sub_zero,Int.reduceNeg,Nat.reduceLT,and_self,and_true,true_and,Bool.false_or,Bool.or_false,Bool.true_or,Bool.or_true,Bool.not_true,Bool.not_false,Int.natAbs_neg,Int.reduceSub,Int.reduceAdd,Int.reduceToNat,Int.natAbs_zero,Int.natAbs_one,Int.reduceLT,Int.reduceLE,Int.reduceGE,Int.reduceGT,decide_eq_true_eq,List.getElem?_cons_zero,List.getElem?_cons_succ,Nat.reduceSub,Int.reduceMul,Nat.reduceBEq,Nat.reducePow,Int.reducePow,and_false,false_and,eq_self,zc1,zcO _ _ zcB,IX,lim,Row.mv,t.control,t.flat,n1,n2]
theorem ifnX (h : Sx G A s H) (f : RFix G A F) (at_ pl : Nat) : ∀ n d : Nat, (ev (PgC lf1 lg1) (n + 350) (d + 17)).c (.fn 100327547307650416) [.ref A.r, .int at_, (Row.ifn pl).mv] H = some (.int ((if Int.fmod s.x 2 = 1 then at_ + 1 else pl : Nat) : Int), H) := by
  intro n d
  obtain ⟨p, h'⟩ := id h
  have t := h'.at f
  have n1 := worth_ok h f (.tup [.str 24077412]) (w_odd t.va)
  rw [ec_fn, callF_ _ _ _ zbN rfl rfl]
  by_cases q : Int.fmod s.x 2 = 1
  · rw [if_pos q] at n1 ⊢
    rw [castS]
    simp only [zdH,zdI,zdJ,zdK,zdL,zdM,zdN,zdO,zdP,zdQ,zc2,zdR,zdS,zdT,zdU,zc3,zdV,zdW,zdX,zdY,zc4,zfP,zfQ,zfR,zfS,zdZ,zd0,zd1,zd2,zd3,zd4,zd5,zd6,zc5,zc6,zd7,zd8,zd9,zea,zeb,zec,zed,zc7,zc8,zee,zhd,zhe,zc9,zda,zdb,zdc,zdd,zde,zfT,zfU,zfV,zef,zeg,zdf,zdg,zdh,zdi,zeh,zei,zfW,zfX,zfY,zdj,zdk,zdl,zdm,zdn,zfZ,zej,zdo,zek,zf0,zf1,zdp,zdq,zdr,zel,zem,zen,zeo,zds,zdt,zdu,zf2,zf3,zep,zf4,zeq,zf5,zf6,zf7,zf8,zf9,zga,zer,zgb,zgc,zgd,zes,zge,zet,zeu,zgf,zev,zgg,zgh,zgi,zew,zgj,zgk,zgl,zgm,zgn,zgo,zex,zgp,zey,zez,zeA,zeB,zeC,zeD,zdv,zeE,zhf,zgq,zeF,zgr,zeG,zgs,zgt,zgu,zgv,zgw,zgx,zeH,zeI,zeJ,zgy,zgz,zeK,zgA,zeL,zeM,zgB,zgC,zhg,za8,zbM,zce,zbN,zcP,zbo,zbO,zbp,zbP,zal,zbq,zbr,zae,zbs,zbt,zbu,zcf,zbQ,za9,zbv,zbw,zaM,zba,zaU,zcz,zaz,zcg,zaq,zaV,zbR,zch,zbb,zbc,zbS,zbx,zaA,zbT,zbU,zci,zbd,zaf,zar,zas,zaa,zat,zaB,zaW,zbe,zbV,zcj,zbW,zcQ,zby,zbX,zbz,zbY,zam,zbA,zbB,zag,zbC,zbD,zbE,zck,zbZ,zbf,zbF,zbG,zaN,zbg,zaX,zcA,zaC,zcl,zau,zaY,zb0,zcm,zbh,zbi,zb1,zbH,zaD,zb2,zb3,zcn,zbj,zah,zav,zaw,zab,zax,zaE,zaZ,za0,za1,zai,zaj,zb4,zb5,zbk,zb6,zbI,zbJ,zco,zaF,zcR,za2,zaG,zan,za3,zaH,zay,zaO,zak,zaI,zaJ,zac,zaK,zaP,zbl,zb7,zdw,zdx,zcB,za4,zbm,zcS,zdy,zdz,zcC,zdA,zeN,zeO,zdB,zdC,zgD,zeP,zeQ,zgE,zeR,zeS,zgF,zgG,zgH,zgI,zgJ,zeT,zeU,zeV,zeW,zeX,zgK,zeY,zeZ,ze0,ze1,ze2,ze3,zgL,zgM,zgN,ze4,zdD,zgO,ze5,ze6,ze7,zgP,zgQ,zgR,zgS,ze8,zgT,ze9,zfa,zfb,zfc,zfd,zfe,zff,zdE,zcT,zcU,zcV,zcD,zcE,zfg,zfh,zfi,zfj,zfk,zgU,zfl,zfm,zfn,zgV,zgW,zgX,zgY,zgZ,zfo,zfp,zfq,zfr,zg0,zg1,zg2,zg3,zfs,zft,zg4,zfu,zfv,zfw,zfx,zfy,zdF,zfz,zfA,zfB,zfC,zfD,zg5,zfE,zg6,zg7,zg8,zg9,zha,zhb,zfF,zfG,zfH,zfI,zhc,zfJ,zfK,zfL,zfM,zfN,zb8,zcF,zcW,zcG,zfO,zcp,zcH,zcq,zcI,zaL,zcr,zcs,zao,zct,zcu,zcv,zcX,zcJ,zb9,zcw,zcx,zbn,zca,zbK,zdG,za5,zcY,zaQ,zbL,zcK,zcZ,zcb,zcc,zcL,zcy,za6,zcM,zcN,zc0,zcd,zap,zaR,zaS,zad,zaT,za7,F_FlowRun_go,if_true,if_false,zhh,zhi,cond_true,cond_false,List.zip,List.zipWith,List.length_cons,List.length_nil,Option.isSome_some,Bool.false_eq_true,reduceIte,reduceCtorEq,Nat.reduceEqDiff,Nat.reduceAdd,Nat.reduceLeDiff,Int.cast_ofNat_Int,decide_true,decide_false,Bool.and_true,Bool.true_and,Bool.and_false,Bool.false_and,Int.sub_zero,Int.reduceNeg,Nat.reduceLT,and_self,and_true,true_and,Bool.false_or,Bool.or_false,Bool.true_or,Bool.or_true,Bool.not_true,Bool.not_false,Int.natAbs_neg,Int.reduceSub,Int.reduceAdd,Int.reduceToNat,Int.natAbs_zero,Int.natAbs_one,Int.reduceLT,Int.reduceLE,Int.reduceGE,Int.reduceGT,decide_eq_true_eq,List.getElem?_cons_zero,List.getElem?_cons_succ,Nat.reduceSub,Int.reduceMul,Nat.reduceBEq,Nat.reducePow,Int.reducePow,and_false,false_and,eq_self,zc1,zcO _ _ zcB,IX,lim,Row.mv,t.mw,n1,true_ok,Int.reduceEq]
  · rw [if_neg q] at n1 ⊢
    simp only [zdH,zdI,zdJ,zdK,zdL,zdM,zdN,zdO,zdP,zdQ,zc2,zdR,zdS,zdT,zdU,zc3,zdV,zdW,zdX,zdY,zc4,zfP,zfQ,zfR,zfS,zdZ,zd0,zd1,zd2,zd3,zd4,zd5,zd6,zc5,zc6,zd7,zd8,zd9,zea,zeb,zec,zed,zc7,zc8,zee,zhd,zhe,zc9,zda,zdb,zdc,zdd,zde,zfT,zfU,zfV,zef,zeg,zdf,zdg,zdh,zdi,zeh,zei,zfW,zfX,zfY,zdj,zdk,zdl,zdm,zdn,zfZ,zej,zdo,zek,zf0,zf1,zdp,zdq,zdr,zel,zem,zen,zeo,zds,zdt,zdu,zf2,zf3,zep,zf4,zeq,zf5,zf6,zf7,zf8,zf9,zga,zer,zgb,zgc,zgd,zes,zge,zet,zeu,zgf,zev,zgg,zgh,zgi,zew,zgj,zgk,zgl,zgm,zgn,zgo,zex,zgp,zey,zez,zeA,zeB,zeC,zeD,zdv,zeE,zhf,zgq,zeF,zgr,zeG,zgs,zgt,zgu,zgv,zgw,zgx,zeH,zeI,zeJ,zgy,zgz,zeK,zgA,zeL,zeM,zgB,zgC,zhg,za8,zbM,zce,zbN,zcP,zbo,zbO,zbp,zbP,zal,zbq,zbr,zae,zbs,zbt,zbu,zcf,zbQ,za9,zbv,zbw,zaM,zba,zaU,zcz,zaz,zcg,zaq,zaV,zbR,zch,zbb,zbc,zbS,zbx,zaA,zbT,zbU,zci,zbd,zaf,zar,zas,zaa,zat,zaB,zaW,zbe,zbV,zcj,zbW,zcQ,zby,zbX,zbz,zbY,zam,zbA,zbB,zag,zbC,zbD,zbE,zck,zbZ,zbf,zbF,zbG,zaN,zbg,zaX,zcA,zaC,zcl,zau,zaY,zb0,zcm,zbh,zbi,zb1,zbH,zaD,zb2,zb3,zcn,zbj,zah,zav,zaw,zab,zax,zaE,zaZ,za0,za1,zai,zaj,zb4,zb5,zbk,zb6,zbI,zbJ,zco,zaF,zcR,za2,zaG,zan,za3,zaH,zay,zaO,zak,zaI,zaJ,zac,zaK,zaP,zbl,zb7,zdw,zdx,zcB,za4,zbm,zcS,zdy,zdz,zcC,zdA,zeN,zeO,zdB,zdC,zgD,zeP,zeQ,zgE,zeR,zeS,zgF,zgG,zgH,zgI,zgJ,zeT,zeU,zeV,zeW,zeX,zgK,zeY,zeZ,ze0,ze1,ze2,ze3,zgL,zgM,zgN,ze4,zdD,zgO,ze5,ze6,ze7,zgP,zgQ,zgR,zgS,ze8,zgT,ze9,zfa,zfb,zfc,zfd,zfe,zff,zdE,zcT,zcU,zcV,zcD,zcE,zfg,zfh,zfi,zfj,zfk,zgU,zfl,zfm,zfn,zgV,zgW,zgX,zgY,zgZ,zfo,zfp,zfq,zfr,zg0,zg1,zg2,zg3,zfs,zft,zg4,zfu,zfv,zfw,zfx,zfy,zdF,zfz,zfA,zfB,zfC,zfD,zg5,zfE,zg6,zg7,zg8,zg9,zha,zhb,zfF,zfG,zfH,zfI,zhc,zfJ,zfK,zfL,zfM,zfN,zb8,zcF,zcW,zcG,zfO,zcp,zcH,zcq,zcI,zaL,zcr,zcs,zao,zct,zcu,zcv,zcX,zcJ,zb9,zcw,zcx,zbn,zca,zbK,zdG,za5,zcY,zaQ,zbL,zcK,zcZ,zcb,zcc,zcL,zcy,za6,zcM,zcN,zc0,zcd,zap,zaR,zaS,zad,zaT,za7,F_FlowRun_go,if_true,if_false,zhh,zhi,cond_true,cond_false,List.zip,List.zipWith,List.length_cons,List.length_nil,Option.isSome_some,Bool.false_eq_true,reduceIte,reduceCtorEq,Nat.reduceEqDiff,Nat.reduceAdd,Nat.reduceLeDiff,Int.cast_ofNat_Int,decide_true,decide_false,Bool.and_true,Bool.true_and,Bool.and_false,Bool.false_and,Int.sub_zero,Int.reduceNeg,Nat.reduceLT,and_self,and_true,true_and,Bool.false_or,Bool.or_false,Bool.true_or,Bool.or_true,Bool.not_true,Bool.not_false,Int.natAbs_neg,Int.reduceSub,Int.reduceAdd,Int.reduceToNat,Int.natAbs_zero,Int.natAbs_one,Int.reduceLT,Int.reduceLE,Int.reduceGE,Int.reduceGT,decide_eq_true_eq,List.getElem?_cons_zero,List.getElem?_cons_succ,Nat.reduceSub,Int.reduceMul,Nat.reduceBEq,Nat.reducePow,Int.reducePow,and_false,false_and,eq_self,zc1,zcO _ _ zcB,IX,lim,Row.mv,t.mw,n1,true_ok]
theorem jmpX (at_ pl : Nat) : ∀ n d : Nat, (ev (PgC lf1 lg1) (n + 350) (d + 17)).c (.fn 100327547307650416) [.ref A.r, .int at_, (Row.jump pl).mv] H = some (.int pl, H) := by
  intro n d
  rw [ec_fn, callF_ _ _ _ zbN rfl rfl]
  simp only [zdH,zdI,zdJ,zdK,zdL,zdM,zdN,zdO,zdP,zdQ,zc2,zdR,zdS,zdT,zdU,zc3,zdV,zdW,zdX,zdY,zc4,zfP,zfQ,zfR,zfS,zdZ,zd0,zd1,zd2,zd3,zd4,zd5,zd6,zc5,zc6,zd7,zd8,zd9,zea,zeb,zec,zed,zc7,zc8,zee,zhd,zhe,zc9,zda,zdb,zdc,zdd,zde,zfT,zfU,zfV,zef,zeg,zdf,zdg,zdh,zdi,zeh,zei,zfW,zfX,zfY,zdj,zdk,zdl,zdm,zdn,zfZ,zej,zdo,zek,zf0,zf1,zdp,zdq,zdr,zel,zem,zen,zeo,zds,zdt,zdu,zf2,zf3,zep,zf4,zeq,zf5,zf6,zf7,zf8,zf9,zga,zer,zgb,zgc,zgd,zes,zge,zet,zeu,zgf,zev,zgg,zgh,zgi,zew,zgj,zgk,zgl,zgm,zgn,zgo,zex,zgp,zey,zez,zeA,zeB,zeC,zeD,zdv,zeE,zhf,zgq,zeF,zgr,zeG,zgs,zgt,zgu,zgv,zgw,zgx,zeH,zeI,zeJ,zgy,zgz,zeK,zgA,zeL,zeM,zgB,zgC,zhg,za8,zbM,zce,zbN,zcP,zbo,zbO,zbp,zbP,zal,zbq,zbr,zae,zbs,zbt,zbu,zcf,zbQ,za9,zbv,zbw,zaM,zba,zaU,zcz,zaz,zcg,zaq,zaV,zbR,zch,zbb,zbc,zbS,zbx,zaA,zbT,zbU,zci,zbd,zaf,zar,zas,zaa,zat,zaB,zaW,zbe,zbV,zcj,zbW,zcQ,zby,zbX,zbz,zbY,zam,zbA,zbB,zag,zbC,zbD,zbE,zck,zbZ,zbf,zbF,zbG,zaN,zbg,zaX,zcA,zaC,zcl,zau,zaY,zb0,zcm,zbh,zbi,zb1,zbH,zaD,zb2,zb3,zcn,zbj,zah,zav,zaw,zab,zax,zaE,zaZ,za0,za1,zai,zaj,zb4,zb5,zbk,zb6,zbI,zbJ,zco,zaF,zcR,za2,zaG,zan,za3,zaH,zay,zaO,zak,zaI,zaJ,zac,zaK,zaP,zbl,zb7,zdw,zdx,zcB,za4,zbm,zcS,zdy,zdz,zcC,zdA,zeN,zeO,zdB,zdC,zgD,zeP,zeQ,zgE,zeR,zeS,zgF,zgG,zgH,zgI,zgJ,zeT,zeU,zeV,zeW,zeX,zgK,zeY,zeZ,ze0,ze1,ze2,ze3,zgL,zgM,zgN,ze4,zdD,zgO,ze5,ze6,ze7,zgP,zgQ,zgR,zgS,ze8,zgT,ze9,zfa,zfb,zfc,zfd,zfe,zff,zdE,zcT,zcU,zcV,zcD,zcE,zfg,zfh,zfi,zfj,zfk,zgU,zfl,zfm,zfn,zgV,zgW,zgX,zgY,zgZ,zfo,zfp,zfq,zfr,zg0,zg1,zg2,zg3,zfs,zft,zg4,zfu,zfv,zfw,zfx,zfy,zdF,zfz,zfA,zfB,zfC,zfD,zg5,zfE,zg6,zg7,zg8,zg9,zha,zhb,zfF,zfG,zfH,zfI,zhc,zfJ,zfK,zfL,zfM,zfN,zb8,zcF,zcW,zcG,zfO,zcp,zcH,zcq,zcI,zaL,zcr,zcs,zao,zct,zcu,zcv,zcX,zcJ,zb9,zcw,zcx,zbn,zca,zbK,zdG,za5,zcY,zaQ,zbL,zcK,zcZ,zcb,zcc,zcL,zcy,za6,zcM,zcN,zc0,zcd,zap,zaR,zaS,zad,zaT,za7,F_FlowRun_go,if_true,if_false,zhh,zhi,cond_true,cond_false,List.zip,List.zipWith,List.length_cons,List.length_nil,Option.isSome_some,Bool.false_eq_true,reduceIte,reduceCtorEq,Nat.reduceEqDiff,Nat.reduceAdd,Nat.reduceLeDiff,Int.cast_ofNat_Int,decide_true,decide_false,Bool.and_true,Bool.true_and,Bool.and_false,Bool.false_and,Int.sub_zero,Int.reduceNeg,Nat.reduceLT,and_self,and_true,true_and,Bool.false_or,Bool.or_false,Bool.true_or,Bool.or_true,Bool.not_true,Bool.not_false,Int.natAbs_neg,Int.reduceSub,Int.reduceAdd,Int.reduceToNat,Int.natAbs_zero,Int.natAbs_one,Int.reduceLT,Int.reduceLE,Int.reduceGE,Int.reduceGT,decide_eq_true_eq,List.getElem?_cons_zero,List.getElem?_cons_succ,Nat.reduceSub,Int.reduceMul,Nat.reduceBEq,Nat.reducePow,Int.reducePow,and_false,false_and,eq_self,zc1,zcO _ _ zcB,IX,lim,Row.mv]
theorem ongX (h : Sx G A s H) (f : RFix G A F) (at_ k : Nat) (ok : (Row.ong k).ok G) (i : Int) (hi : s.i = some i) (g a : Int) (h1 : 1 ≤ i ∧ i ≤ 3) (hg : idxL [MV.int 60, .int 50, .int 60] (i - 1) = some (.int g)) (hk : okKey (.int g) plD = true) (hq : dGet (.int g) plD = some (.int a)) : ∀ n d : Nat, (ev (PgC lf1 lg1) (n + 350) (d + 17)).c (.fn 100327547307650416) [.ref A.r, .int at_, (Row.ong k).mv] H = some (.int a, H) := by
  have n1 := wholeI_ok h f hi
  have n2 : ∀ n d H, (ev (PgC lf1 lg1) (n + 40) (d + 4)).c (.fn 390775174292846) [.int i, .int 3] H = some (.int (i - 1), H) := fun n d H => chosen_ok n d i h1.1 h1.2 H
  have n3 := place_ok h f g a hk hq
  obtain ⟨p, h'⟩ := id h
  have t := h'.at f
  have c0 := h'.ext _ _ (show G k = some (.list [.int 60, .int 50, .int 60]) from ok)
  intro n d
  rw [ec_fn, callF_ _ _ _ zbN rfl rfl]
  simp only [zdH,zdI,zdJ,zdK,zdL,zdM,zdN,zdO,zdP,zdQ,zc2,zdR,zdS,zdT,zdU,zc3,zdV,zdW,zdX,zdY,zc4,zfP,zfQ,zfR,zfS,zdZ,zd0,zd1,zd2,zd3,zd4,zd5,zd6,zc5,zc6,zd7,zd8,zd9,zea,zeb,zec,zed,zc7,zc8,zee,zhd,zhe,zc9,zda,zdb,zdc,zdd,zde,zfT,zfU,zfV,zef,zeg,zdf,zdg,zdh,zdi,zeh,zei,zfW,zfX,zfY,zdj,zdk,zdl,zdm,zdn,zfZ,zej,zdo,zek,zf0,zf1,zdp,zdq,zdr,zel,zem,zen,zeo,zds,zdt,zdu,zf2,zf3,zep,zf4,zeq,zf5,zf6,zf7,zf8,zf9,zga,zer,zgb,zgc,zgd,zes,zge,zet,zeu,zgf,zev,zgg,zgh,zgi,zew,zgj,zgk,zgl,zgm,zgn,zgo,zex,zgp,zey,zez,zeA,zeB,zeC,zeD,zdv,zeE,zhf,zgq,zeF,zgr,zeG,zgs,zgt,zgu,zgv,zgw,zgx,zeH,zeI,zeJ,zgy,zgz,zeK,zgA,zeL,zeM,zgB,zgC,zhg,za8,zbM,zce,zbN,zcP,zbo,zbO,zbp,zbP,zal,zbq,zbr,zae,zbs,zbt,zbu,zcf,zbQ,za9,zbv,zbw,zaM,zba,zaU,zcz,zaz,zcg,zaq,zaV,zbR,zch,zbb,zbc,zbS,zbx,zaA,zbT,zbU,zci,zbd,zaf,zar,zas,zaa,zat,zaB,zaW,zbe,zbV,zcj,zbW,zcQ,zby,zbX,zbz,zbY,zam,zbA,zbB,zag,zbC,zbD,zbE,zck,zbZ,zbf,zbF,zbG,zaN,zbg,zaX,zcA,zaC,zcl,zau,zaY,zb0,zcm,zbh,zbi,zb1,zbH,zaD,zb2,zb3,zcn,zbj,zah,zav,zaw,zab,zax,zaE,zaZ,za0,za1,zai,zaj,zb4,zb5,zbk,zb6,zbI,zbJ,zco,zaF,zcR,za2,zaG,zan,za3,zaH,zay,zaO,zak,zaI,zaJ,zac,zaK,zaP,zbl,zb7,zdw,zdx,zcB,za4,zbm,zcS,zdy,zdz,zcC,zdA,zeN,zeO,zdB,zdC,zgD,zeP,zeQ,zgE,zeR,zeS,zgF,zgG,zgH,zgI,zgJ,zeT,zeU,zeV,zeW,zeX,zgK,zeY,zeZ,ze0,ze1,ze2,ze3,zgL,zgM,zgN,ze4,zdD,zgO,ze5,ze6,ze7,zgP,zgQ,zgR,zgS,ze8,zgT,ze9,zfa,zfb,zfc,zfd,zfe,zff,zdE,zcT,zcU,zcV,zcD,zcE,zfg,zfh,zfi,zfj,zfk,zgU,zfl,zfm,zfn,zgV,zgW,zgX,zgY,zgZ,zfo,zfp,zfq,zfr,zg0,zg1,zg2,zg3,zfs,zft,zg4,zfu,zfv,zfw,zfx,zfy,zdF,zfz,zfA,zfB,zfC,zfD,zg5,zfE,zg6,zg7,zg8,zg9,zha,zhb,zfF,zfG,zfH,zfI,zhc,zfJ,zfK,zfL,zfM,zfN,zb8,zcF,zcW,zcG,zfO,zcp,zcH,zcq,zcI,zaL,zcr,zcs,zao,zct,zcu,zcv,zcX,zcJ,zb9,zcw,zcx,zbn,zca,zbK,zdG,za5,zcY,zaQ,zbL,zcK,zcZ,zcb,zcc,zcL,zcy,za6,zcM,zcN,zc0,zcd,zap,zaR,zaS,zad,zaT,za7,F_FlowRun_go,if_true,if_false,zhh,zhi,cond_true,cond_false,List.zip,List.zipWith,List.length_cons,List.length_nil,Option.isSome_some,Bool.false_eq_true,reduceIte,reduceCtorEq,Nat.reduceEqDiff,Nat.reduceAdd,Nat.reduceLeDiff,Int.cast_ofNat_Int,decide_true,decide_false,Bool.and_true,Bool.true_and,Bool.and_false,Bool.false_and,Int.sub_zero,Int.reduceNeg,Nat.reduceLT,and_self,and_true,true_and,Bool.false_or,Bool.or_false,Bool.true_or,Bool.or_true,Bool.not_true,Bool.not_false,Int.natAbs_neg,Int.reduceSub,Int.reduceAdd,Int.reduceToNat,Int.natAbs_zero,Int.natAbs_one,Int.reduceLT,Int.reduceLE,Int.reduceGE,Int.reduceGT,decide_eq_true_eq,List.getElem?_cons_zero,List.getElem?_cons_succ,Nat.reduceSub,Int.reduceMul,Nat.reduceBEq,Nat.reducePow,Int.reducePow,and_false,false_and,eq_self,zc1,zcO _ _ zcB,IX,lim,Row.mv,t.mh,t.flat,c0,n1,n2,hg,n3]
theorem subX (h : Sx G A s H) (f : RFix G A F) (l : Int) (hp : s.pile = .f l) : ∃ H', Sx G A { s with pile := .fg l } H' ∧ ∀ n d : Nat, (ev (PgC lf1 lg1) (n + 350) (d + 17)).c (.fn 100327547307650416) [.ref A.r, .int 1, Row.sub.mv] H = some (.int 13, H') := by
  have n1 := place_ok h f 40 13 rfl rfl
  obtain ⟨p, h'⟩ := h
  have t := h'.at f
  have n2 := gosub_ok h' f l hp
  refine ⟨_, ⟨p, h'.push (.fg l)⟩, fun n d => ?_⟩
  rw [ec_fn, callF_ _ _ _ zbN rfl rfl]
  simp only [zdH,zdI,zdJ,zdK,zdL,zdM,zdN,zdO,zdP,zdQ,zc2,zdR,zdS,zdT,zdU,zc3,zdV,zdW,zdX,zdY,zc4,zfP,zfQ,zfR,zfS,zdZ,zd0,zd1,zd2,zd3,zd4,zd5,zd6,zc5,zc6,zd7,zd8,zd9,zea,zeb,zec,zed,zc7,zc8,zee,zhd,zhe,zc9,zda,zdb,zdc,zdd,zde,zfT,zfU,zfV,zef,zeg,zdf,zdg,zdh,zdi,zeh,zei,zfW,zfX,zfY,zdj,zdk,zdl,zdm,zdn,zfZ,zej,zdo,zek,zf0,zf1,zdp,zdq,zdr,zel,zem,zen,zeo,zds,zdt,zdu,zf2,zf3,zep,zf4,zeq,zf5,zf6,zf7,zf8,zf9,zga,zer,zgb,zgc,zgd,zes,zge,zet,zeu,zgf,zev,zgg,zgh,zgi,zew,zgj,zgk,zgl,zgm,zgn,zgo,zex,zgp,zey,zez,zeA,zeB,zeC,zeD,zdv,zeE,zhf,zgq,zeF,zgr,zeG,zgs,zgt,zgu,zgv,zgw,zgx,zeH,zeI,zeJ,zgy,zgz,zeK,zgA,zeL,zeM,zgB,zgC,zhg,za8,zbM,zce,zbN,zcP,zbo,zbO,zbp,zbP,zal,zbq,zbr,zae,zbs,zbt,zbu,zcf,zbQ,za9,zbv,zbw,zaM,zba,zaU,zcz,zaz,zcg,zaq,zaV,zbR,zch,zbb,zbc,zbS,zbx,zaA,zbT,zbU,zci,zbd,zaf,zar,zas,zaa,zat,zaB,zaW,zbe,zbV,zcj,zbW,zcQ,zby,zbX,zbz,zbY,zam,zbA,zbB,zag,zbC,zbD,zbE,zck,zbZ,zbf,zbF,zbG,zaN,zbg,zaX,zcA,zaC,zcl,zau,zaY,zb0,zcm,zbh,zbi,zb1,zbH,zaD,zb2,zb3,zcn,zbj,zah,zav,zaw,zab,zax,zaE,zaZ,za0,za1,zai,zaj,zb4,zb5,zbk,zb6,zbI,zbJ,zco,zaF,zcR,za2,zaG,zan,za3,zaH,zay,zaO,zak,zaI,zaJ,zac,zaK,zaP,zbl,zb7,zdw,zdx,zcB,za4,zbm,zcS,zdy,zdz,zcC,zdA,zeN,zeO,zdB,zdC,zgD,zeP,zeQ,zgE,zeR,zeS,zgF,zgG,zgH,zgI,zgJ,zeT,zeU,zeV,zeW,zeX,zgK,zeY,zeZ,ze0,ze1,ze2,ze3,zgL,zgM,zgN,ze4,zdD,zgO,ze5,ze6,ze7,zgP,zgQ,zgR,zgS,ze8,zgT,ze9,zfa,zfb,zfc,zfd,zfe,zff,zdE,zcT,zcU,zcV,zcD,zcE,zfg,zfh,zfi,zfj,zfk,zgU,zfl,zfm,zfn,zgV,zgW,zgX,zgY,zgZ,zfo,zfp,zfq,zfr,zg0,zg1,zg2,zg3,zfs,zft,zg4,zfu,zfv,zfw,zfx,zfy,zdF,zfz,zfA,zfB,zfC,zfD,zg5,zfE,zg6,zg7,zg8,zg9,zha,zhb,zfF,zfG,zfH,zfI,zhc,zfJ,zfK,zfL,zfM,zfN,zb8,zcF,zcW,zcG,zfO,zcp,zcH,zcq,zcI,zaL,zcr,zcs,zao,zct,zcu,zcv,zcX,zcJ,zb9,zcw,zcx,zbn,zca,zbK,zdG,za5,zcY,zaQ,zbL,zcK,zcZ,zcb,zcc,zcL,zcy,za6,zcM,zcN,zc0,zcd,zap,zaR,zaS,zad,zaT,za7,F_FlowRun_go,if_true,if_false,zhh,zhi,cond_true,cond_false,List.zip,List.zipWith,List.length_cons,List.length_nil,Option.isSome_some,Bool.false_eq_true,reduceIte,reduceCtorEq,Nat.reduceEqDiff,Nat.reduceAdd,Nat.reduceLeDiff,Int.cast_ofNat_Int,decide_true,decide_false,Bool.and_true,Bool.true_and,Bool.and_false,Bool.false_and,Int.sub_zero,Int.reduceNeg,Nat.reduceLT,and_self,and_true,true_and,Bool.false_or,Bool.or_false,Bool.true_or,Bool.or_true,Bool.not_true,Bool.not_false,Int.natAbs_neg,Int.reduceSub,Int.reduceAdd,Int.reduceToNat,Int.natAbs_zero,Int.natAbs_one,Int.reduceLT,Int.reduceLE,Int.reduceGE,Int.reduceGT,decide_eq_true_eq,List.getElem?_cons_zero,List.getElem?_cons_succ,Nat.reduceSub,Int.reduceMul,Nat.reduceBEq,Nat.reducePow,Int.reducePow,and_false,false_and,eq_self,zc1,zcO _ _ zcB,IX,lim,Row.mv,t.control,t.flat,n1,n2]
theorem retX (h : Sx G A s H) (f : RFix G A F) (at_ : Nat) (l : Int) (hp : s.pile = .fg l) : ∃ H', Sx G A { s with pile := .f l } H' ∧ ∀ n d : Nat, (ev (PgC lf1 lg1) (n + 350) (d + 17)).c (.fn 100327547307650416) [.ref A.r, .int at_, Row.ret.mv] H = some (.int 2, H') := by
  obtain ⟨p, h'⟩ := h
  have t := h'.at f
  have n2 := retp_ok h' f l hp
  refine ⟨_, ⟨_, h'.cut (.f l)⟩, fun n d => ?_⟩
  rw [ec_fn, callF_ _ _ _ zbN rfl rfl]
  simp only [zdH,zdI,zdJ,zdK,zdL,zdM,zdN,zdO,zdP,zdQ,zc2,zdR,zdS,zdT,zdU,zc3,zdV,zdW,zdX,zdY,zc4,zfP,zfQ,zfR,zfS,zdZ,zd0,zd1,zd2,zd3,zd4,zd5,zd6,zc5,zc6,zd7,zd8,zd9,zea,zeb,zec,zed,zc7,zc8,zee,zhd,zhe,zc9,zda,zdb,zdc,zdd,zde,zfT,zfU,zfV,zef,zeg,zdf,zdg,zdh,zdi,zeh,zei,zfW,zfX,zfY,zdj,zdk,zdl,zdm,zdn,zfZ,zej,zdo,zek,zf0,zf1,zdp,zdq,zdr,zel,zem,zen,zeo,zds,zdt,zdu,zf2,zf3,zep,zf4,zeq,zf5,zf6,zf7,zf8,zf9,zga,zer,zgb,zgc,zgd,zes,zge,zet,zeu,zgf,zev,zgg,zgh,zgi,zew,zgj,zgk,zgl,zgm,zgn,zgo,zex,zgp,zey,zez,zeA,zeB,zeC,zeD,zdv,zeE,zhf,zgq,zeF,zgr,zeG,zgs,zgt,zgu,zgv,zgw,zgx,zeH,zeI,zeJ,zgy,zgz,zeK,zgA,zeL,zeM,zgB,zgC,zhg,za8,zbM,zce,zbN,zcP,zbo,zbO,zbp,zbP,zal,zbq,zbr,zae,zbs,zbt,zbu,zcf,zbQ,za9,zbv,zbw,zaM,zba,zaU,zcz,zaz,zcg,zaq,zaV,zbR,zch,zbb,zbc,zbS,zbx,zaA,zbT,zbU,zci,zbd,zaf,zar,zas,zaa,zat,zaB,zaW,zbe,zbV,zcj,zbW,zcQ,zby,zbX,zbz,zbY,zam,zbA,zbB,zag,zbC,zbD,zbE,zck,zbZ,zbf,zbF,zbG,zaN,zbg,zaX,zcA,zaC,zcl,zau,zaY,zb0,zcm,zbh,zbi,zb1,zbH,zaD,zb2,zb3,zcn,zbj,zah,zav,zaw,zab,zax,zaE,zaZ,za0,za1,zai,zaj,zb4,zb5,zbk,zb6,zbI,zbJ,zco,zaF,zcR,za2,zaG,zan,za3,zaH,zay,zaO,zak,zaI,zaJ,zac,zaK,zaP,zbl,zb7,zdw,zdx,zcB,za4,zbm,zcS,zdy,zdz,zcC,zdA,zeN,zeO,zdB,zdC,zgD,zeP,zeQ,zgE,zeR,zeS,zgF,zgG,zgH,zgI,zgJ,zeT,zeU,zeV,zeW,zeX,zgK,zeY,zeZ,ze0,ze1,ze2,ze3,zgL,zgM,zgN,ze4,zdD,zgO,ze5,ze6,ze7,zgP,zgQ,zgR,zgS,ze8,zgT,ze9,zfa,zfb,zfc,zfd,zfe,zff,zdE,zcT,zcU,zcV,zcD,zcE,zfg,zfh,zfi,zfj,zfk,zgU,zfl,zfm,zfn,zgV,zgW,zgX,zgY,zgZ,zfo,zfp,zfq,zfr,zg0,zg1,zg2,zg3,zfs,zft,zg4,zfu,zfv,zfw,zfx,zfy,zdF,zfz,zfA,zfB,zfC,zfD,zg5,zfE,zg6,zg7,zg8,zg9,zha,zhb,zfF,zfG,zfH,zfI,zhc,zfJ,zfK,zfL,zfM,zfN,zb8,zcF,zcW,zcG,zfO,zcp,zcH,zcq,zcI,zaL,zcr,zcs,zao,zct,zcu,zcv,zcX,zcJ,zb9,zcw,zcx,zbn,zca,zbK,zdG,za5,zcY,zaQ,zbL,zcK,zcZ,zcb,zcc,zcL,zcy,za6,zcM,zcN,zc0,zcd,zap,zaR,zaS,zad,zaT,za7,F_FlowRun_go,if_true,if_false,zhh,zhi,cond_true,cond_false,List.zip,List.zipWith,List.length_cons,List.length_nil,Option.isSome_some,Bool.false_eq_true,reduceIte,reduceCtorEq,Nat.reduceEqDiff,Nat.reduceAdd,Nat.reduceLeDiff,Int.cast_ofNat_Int,decide_true,decide_false,Bool.and_true,Bool.true_and,Bool.and_false,Bool.false_and,Int.sub_zero,Int.reduceNeg,Nat.reduceLT,and_self,and_true,true_and,Bool.false_or,Bool.or_false,Bool.true_or,Bool.or_true,Bool.not_true,Bool.not_false,Int.natAbs_neg,Int.reduceSub,Int.reduceAdd,Int.reduceToNat,Int.natAbs_zero,Int.natAbs_one,Int.reduceLT,Int.reduceLE,Int.reduceGE,Int.reduceGT,decide_eq_true_eq,List.getElem?_cons_zero,List.getElem?_cons_succ,Nat.reduceSub,Int.reduceMul,Nat.reduceBEq,Nat.reducePow,Int.reducePow,and_false,false_and,eq_self,zc1,zcO _ _ zcB,IX,lim,Row.mv,t.control,n2]
end
end Mn.Mg
end
section
set_option maxRecDepth 100000
namespace Mn.Mg
section
variable {G : Fz} {A : RA} {F : Fl} {p : Nat} {s : RS} {H : MH}
theorem flowX (h : Sx G A s H) (f : RFix G A F) (at_ : Nat) (r : Row) (ok : r.ok G) (hf : isFlow r = true) {a' : Nat} {s' : RS} (q : oneRow at_ s r = some (a', s')) :
    ∃ H', (∀ n d : Nat, (ev (PgC lf1 lg1) (n + 370) (d + 18)).c (.fn 100327547239952247) [.ref A.r, .int at_, r.mv] H = some (.int a', H')) ∧ Sx G A s' H' := by
  have fin : ∀ {a : Nat} {t : RS} {H' : MH}, some (a, t) = some (a', s') → (∀ n d : Nat, (ev (PgC lf1 lg1) (n + 370) (d + 18)).c (.fn 100327547239952247) [.ref A.r, .int at_, r.mv] H = some (.int a, H')) → Sx G A t H' → ∃ H', (∀ n d : Nat, (ev (PgC lf1 lg1) (n + 370) (d + 18)).c (.fn 100327547239952247) [.ref A.r, .int at_, r.mv] H = some (.int a', H')) ∧ Sx G A s' H' := by
    intro a t H' e n1 S'
    obtain rfl : a = a' := congrArg Prod.fst (Option.some.inj e)
    obtain rfl : t = s' := congrArg Prod.snd (Option.some.inj e)
    exact ⟨H', n1, S'⟩
  cases r with
  | for_ r =>
    have q : forR at_ r s s.pile = some (a', s') := q
    cases hp : s.pile with
    | e =>
      rw [hp] at q
      refine gd (show (if at_ = 0 ∧ 1 ≤ r then some (1, { s with i := some 1, pile := .f r }) else none) = some (a', s') from q) fun hc e => ?_
      obtain ⟨rfl, hr⟩ := hc
      obtain ⟨H', S', n1⟩ := forX h f r hr hp
      exact fin e (loopX 0 rfl rfl n1) S'
    | _ => rw [hp] at q; cases q
  | next k =>
    have q : nextR at_ s s.pile s.i = some (a', s') := q
    cases hp : s.pile with
    | f l =>
      cases hi : s.i with
      | none => rw [hp, hi] at q; cases q
      | some i =>
        rw [hp, hi] at q
        refine gd (show (if 0 ≤ i ∧ i < 90 then some (if l < i + 1 then at_ + 1 else 1, { s with i := some (i + 1), pile := if l < i + 1 then .e else .f l }) else none) = some (a', s') from q) fun hc e => ?_
        obtain ⟨H', S', n1⟩ := nextX h f k ok at_ l i hp hi hc
        exact fin e (loopX at_ rfl rfl n1) S'
    | _ => rw [hp] at q; cases q
  | sub =>
    have q : subR at_ s s.pile = some (a', s') := q
    cases hp : s.pile with
    | f l =>
      rw [hp] at q
      refine gd (show (if at_ = 1 then some (13, { s with pile := .fg l }) else none) = some (a', s') from q) fun hc e => ?_
      subst hc
      obtain ⟨H', S', n1⟩ := subX h f l hp
      exact fin e (jumpX 1 rfl rfl n1) S'
    | _ => rw [hp] at q; cases q
  | ret =>
    have q : retR s s.pile = some (a', s') := q
    cases hp : s.pile with
    | fg l =>
      rw [hp] at q
      obtain ⟨H', S', n1⟩ := retX h f at_ l hp
      exact fin q (jumpX at_ rfl rfl n1) S'
    | _ => rw [hp] at q; cases q
  | whl l =>
    refine gd (show (if isEW s.pile = true then whlR at_ l s else none) = some (a', s') from q) fun hc e => ?_
    refine gd (show (if at_ = 3 then (if s.x < l then some (4, { s with pile := .w }) else some (7, { s with pile := .e })) else none) = some (a', s') from e) fun h3 e => ?_
    subst h3
    have e : (if s.x < l then some (4, { s with pile := .w }) else some (7, { s with pile := .e })) = some (a', s') := e
    obtain ⟨H', S', n1⟩ := whlX h f l (isEW_inv hc)
    by_cases hx : s.x < l
    · rw [if_pos hx] at e n1 S'
      exact fin e (loopX 3 rfl rfl n1) S'
    · rw [if_neg hx] at e n1 S'
      exact fin e (loopX 3 rfl rfl n1) S'
  | wend =>
    refine gd (show (if at_ = 6 ∧ isW s.pile = true then some (3, s) else none) = some (a', s') from q) fun hc e => ?_
    obtain ⟨rfl, hw⟩ := hc
    obtain ⟨H', S', n1⟩ := wendX h f (isW_inv hw)
    exact fin e (loopX 6 rfl rfl n1) S'
  | ifn pl => exact fin q (jumpX at_ rfl rfl (ifnX h f at_ pl)) h
  | jump pl => exact fin q (jumpX at_ rfl rfl (jmpX at_ pl)) h
  | ong k =>
    have q : ongR s s.i = some (a', s') := q
    cases hi : s.i with
    | none => rw [hi] at q; cases q
    | some i =>
      rw [hi] at q
      have q : (if i = 2 then some (16, s) else if i = 3 then some (18, s) else none) = some (a', s') := q
      by_cases h2 : i = 2
      · rw [if_pos h2] at q
        subst h2
        exact fin q (jumpX at_ rfl rfl (ongX h f at_ k ok 2 hi 50 16 (by decide) rfl rfl rfl)) h
      · rw [if_neg h2] at q
        refine gd q fun h3 e => ?_
        subst h3
        exact fin e (jumpX at_ rfl rfl (ongX h f at_ k ok 3 hi 60 18 (by decide) rfl rfl rfl)) h
  | let_ k => cases hf
  | rem w => cases hf
  | end_ => cases hf
end
end Mn.Mg
end
section
set_option maxRecDepth 100000
namespace Mn.Mg
noncomputable def isEnd : Row → Bool
  | .end_ => true
  | _ => false
noncomputable def stepF (F : Fl) (q : Nat × RS) : Option (Nat × RS) := (F.rows[q.1]?).bind fun p => if isEnd p.2 = true then some (F.rows.length, q.2) else oneRow q.1 q.2 p.2
noncomputable def itF (F : Fl) : Nat → Nat × RS → Option (Nat × RS)
  | 0, q => some q
  | k + 1, q => if F.rows.length ≤ q.1 then some q else (stepF F q).bind (itF F k)
noncomputable def fb (i : Nat) (b : List MS) : List MS := match b[i]? with
  | some (.for_ _ _ c) => c
  | _ => []
theorem itF_end (F : Fl) {q : Nat × RS} (h : F.rows.length ≤ q.1) : ∀ k, itF F k q = some q
  | 0 => rfl
  | k + 1 => if_pos h
noncomputable abbrev LG (A : RA) (at_ : Nat) (mo : Int) (z : Loc) : Loc := (6230994022, .ref A.r) :: (90484, .int at_) :: (6130987892, .int mo) :: z
noncomputable abbrev Z1 (L0 : Loc) : Prop := L0 = [] ∨ ∃ b, L0 = [(6852128163306360106612, b)]
section
variable {G : Fz} {A : RA} {F : Fl} {p : Nat} {s : RS} {H : MH}
theorem Fl.mv_len (F : Fl) : F.mv.length = F.rows.length := List.length_map ..
theorem row_idx (f : RFix G A F) {at_ : Nat} {ln : Int} {r : Row} (hr : F.rows[at_]? = some (ln, r)) : idxL F.mv (at_ : Int) = some (.tup [.int ln, r.mv]) := by
  have := (List.getElem?_eq_some_iff.mp hr).1
  have := f.len
  rw [idx_nat _ at_ rfl (by omega)]
  unfold Fl.mv
  rw [List.getElem?_map, hr]; rfl
theorem flow_mv {r : Row} (h : isFlow r = true) : ∃ k rest, r.mv = .tup (.str k :: rest) ∧ (k == 21775700) = false ∧ (k == 22168909) = false ∧ (k == 21319236) = false := by
  cases r with
  | let_ k => cases h
  | rem w => cases h
  | end_ => cases h
  | _ => exact ⟨_, _, rfl, by decide, by decide, by decide⟩
theorem go_pre (h : Sx G A s H) (f : RFix G A F) (at_ : Nat) (mo : Int) {ln : Int} {r : Row} (hr : F.rows[at_]? = some (ln, r)) (n d : Nat) (tu : MV) (L0 : Loc) (ha : Z1 L0) :
    stmts (ev (PgC lf1 lg1) (n + 390) (d + 19)) (fb 0 F_FlowRun_go.body) (LG A at_ mo ((6248821358, tu) :: L0)) H = stmts (ev (PgC lf1 lg1) (n + 390) (d + 19)) ((fb 0 F_FlowRun_go.body).drop 2) (LG A at_ mo [(6248821358, tu), (6852128163306360106612, r.mv)]) H := by
  obtain ⟨p, h'⟩ := id h
  have c5 := h'.ext _ _ f.ra
  have tt := h'.at f
  have hl := f.len
  have hat := (List.getElem?_eq_some_iff.mp hr).1
  have b1 : F.mv.length ≤ 1048576 := by rw [F.mv_len]; omega
  have b2 : ¬ ((at_ : Int) ≥ (F.mv.length : Int)) := by rw [F.mv_len]; omega
  have e1 := row_idx f hr
  have hs : ∀ v, zhi 6852128163306360106612 v L0 = [(6852128163306360106612, v)] := fun v => by rcases ha with rfl | ⟨v', rfl⟩ <;> rfl
  have key : ∀ r2, stmts (ev (PgC lf1 lg1) (n + 390) (d + 19)) ((fb 0 F_FlowRun_go.body).take 2 ++ r2) (LG A at_ mo ((6248821358, tu) :: L0)) H = stmts (ev (PgC lf1 lg1) (n + 390) (d + 19)) r2 (LG A at_ mo [(6248821358, tu), (6852128163306360106612, r.mv)]) H := by
    intro r2
    simp only [F_FlowRun_go, fb, List.getElem?_cons_zero, LG, List.take, List.cons_append, List.nil_append]
    generalize r.mv = rv at e1
    simp only [zdH,zdI,zdJ,zdK,zdL,zdM,zdN,zdO,zdP,zdQ,zc2,zdR,zdS,zdT,zdU,zc3,zdV,zdW,zdX,zdY,zc4,zfP,zfQ,zfR,zfS,zdZ,zd0,zd1,zd2,zd3,zd4,zd5,zd6,zc5,zc6,zd7,zd8,zd9,zea,zeb,zec,zed,zc7,zc8,zee,zhd,zhe,zc9,zda,zdb,zdc,zdd,zde,zfT,zfU,zfV,zef,zeg,zdf,zdg,zdh,zdi,zeh,zei,zfW,zfX,zfY,zdj,zdk,zdl,zdm,zdn,zfZ,zej,zdo,zek,zf0,zf1,zdp,zdq,zdr,zel,zem,zen,zeo,zds,zdt,zdu,zf2,zf3,zep,zf4,zeq,zf5,zf6,zf7,zf8,zf9,zga,zer,zgb,zgc,zgd,zes,zge,zet,zeu,zgf,zev,zgg,zgh,zgi,zew,zgj,zgk,zgl,zgm,zgn,zgo,zex,zgp,zey,zez,zeA,zeB,zeC,zeD,zdv,zeE,zhf,zgq,zeF,zgr,zeG,zgs,zgt,zgu,zgv,zgw,zgx,zeH,zeI,zeJ,zgy,zgz,zeK,zgA,zeL,zeM,zgB,zgC,zhg,za8,zbM,zce,zbN,zcP,zbo,zbO,zbp,zbP,zal,zbq,zbr,zae,zbs,zbt,zbu,zcf,zbQ,za9,zbv,zbw,zaM,zba,zaU,zcz,zaz,zcg,zaq,zaV,zbR,zch,zbb,zbc,zbS,zbx,zaA,zbT,zbU,zci,zbd,zaf,zar,zas,zaa,zat,zaB,zaW,zbe,zbV,zcj,zbW,zcQ,zby,zbX,zbz,zbY,zam,zbA,zbB,zag,zbC,zbD,zbE,zck,zbZ,zbf,zbF,zbG,zaN,zbg,zaX,zcA,zaC,zcl,zau,zaY,zb0,zcm,zbh,zbi,zb1,zbH,zaD,zb2,zb3,zcn,zbj,zah,zav,zaw,zab,zax,zaE,zaZ,za0,za1,zai,zaj,zb4,zb5,zbk,zb6,zbI,zbJ,zco,zaF,zcR,za2,zaG,zan,za3,zaH,zay,zaO,zak,zaI,zaJ,zac,zaK,zaP,zbl,zb7,zdw,zdx,zcB,za4,zbm,zcS,zdy,zdz,zcC,zdA,zeN,zeO,zdB,zdC,zgD,zeP,zeQ,zgE,zeR,zeS,zgF,zgG,zgH,zgI,zgJ,zeT,zeU,zeV,zeW,zeX,zgK,zeY,zeZ,ze0,ze1,ze2,ze3,zgL,zgM,zgN,ze4,zdD,zgO,ze5,ze6,ze7,zgP,zgQ,zgR,zgS,ze8,zgT,ze9,zfa,zfb,zfc,zfd,zfe,zff,zdE,zcT,zcU,zcV,zcD,zcE,zfg,zfh,zfi,zfj,zfk,zgU,zfl,zfm,zfn,zgV,zgW,zgX,zgY,zgZ,zfo,zfp,zfq,zfr,zg0,zg1,zg2,zg3,zfs,zft,zg4,zfu,zfv,zfw,zfx,zfy,zdF,zfz,zfA,zfB,zfC,zfD,zg5,zfE,zg6,zg7,zg8,zg9,zha,zhb,zfF,zfG,zfH,zfI,zhc,zfJ,zfK,zfL,zfM,zfN,zb8,zcF,zcW,zcG,zfO,zcp,zcH,zcq,zcI,zaL,zcr,zcs,zao,zct,zcu,zcv,zcX,zcJ,zb9,zcw,zcx,zbn,zca,zbK,zdG,za5,zcY,zaQ,zbL,zcK,zcZ,zcb,zcc,zcL,zcy,za6,zcM,zcN,zc0,zcd,zap,zaR,zaS,zad,zaT,za7,F_FlowRun_go,if_true,if_false,zhh,zhi,cond_true,cond_false,List.zip,List.zipWith,List.length_cons,List.length_nil,Option.isSome_some,Bool.false_eq_true,reduceIte,reduceCtorEq,Nat.reduceEqDiff,Nat.reduceAdd,Nat.reduceLeDiff,Int.cast_ofNat_Int,decide_true,decide_false,Bool.and_true,Bool.true_and,Bool.and_false,Bool.false_and,Int.sub_zero,Int.reduceNeg,Nat.reduceLT,and_self,and_true,true_and,Bool.false_or,Bool.or_false,Bool.true_or,Bool.or_true,Bool.not_true,Bool.not_false,Int.natAbs_neg,Int.reduceSub,Int.reduceAdd,Int.reduceToNat,Int.natAbs_zero,Int.natAbs_one,Int.reduceLT,Int.reduceLE,Int.reduceGE,Int.reduceGT,decide_eq_true_eq,List.getElem?_cons_zero,List.getElem?_cons_succ,Nat.reduceSub,Int.reduceMul,Nat.reduceBEq,Nat.reducePow,Int.reducePow,and_false,false_and,eq_self,zc1,zcO _ _ zcB,IX,lim,Row.mv,hs,tt.flat,tt.rows,c5,b1,b2,e1]
  exact key ((fb 0 F_FlowRun_go.body).drop 2)
theorem go_row (h : Sx G A s H) (f : RFix G A F) (at_ : Nat) (mo : Int) {ln : Int} {r : Row} (hr : F.rows[at_]? = some (ln, r)) (he : isEnd r = false) {a' : Nat} {s' : RS} (q : oneRow at_ s r = some (a', s')) :
    ∃ H', Sx G A s' H' ∧ ∀ n d : Nat, ∀ tu : MV, ∀ L0 : Loc, Z1 L0 →
      ∃ b, stmts (ev (PgC lf1 lg1) (n + 390) (d + 19)) (fb 0 F_FlowRun_go.body) (LG A at_ mo ((6248821358, tu) :: L0)) H = some (.nxt, LG A a' mo [(6248821358, tu), (6852128163306360106612, b)], H') := by
  obtain ⟨p, h'⟩ := id h
  have tt := h'.at f
  have ok := f.ok _ (List.mem_of_getElem? hr)
  have pre := go_pre h f at_ mo hr
  cases hm : isFlow r with
  | true =>
    obtain ⟨H', n1, S'⟩ := flowX h f at_ r ok hm q
    refine ⟨H', S', fun n d tu L0 ha => ⟨r.mv, ?_⟩⟩
    rw [pre n d tu L0 ha]
    obtain ⟨k, rest, hk, k1, k2, k3⟩ := flow_mv hm
    rw [hk] at n1 ⊢
    simp only [F_FlowRun_go, fb, List.getElem?_cons_zero, LG, List.drop]
    simp only [zdH,zdI,zdJ,zdK,zdL,zdM,zdN,zdO,zdP,zdQ,zc2,zdR,zdS,zdT,zdU,zc3,zdV,zdW,zdX,zdY,zc4,zfP,zfQ,zfR,zfS,zdZ,zd0,zd1,zd2,zd3,zd4,zd5,zd6,zc5,zc6,zd7,zd8,zd9,zea,zeb,zec,zed,zc7,zc8,zee,zhd,zhe,zc9,zda,zdb,zdc,zdd,zde,zfT,zfU,zfV,zef,zeg,zdf,zdg,zdh,zdi,zeh,zei,zfW,zfX,zfY,zdj,zdk,zdl,zdm,zdn,zfZ,zej,zdo,zek,zf0,zf1,zdp,zdq,zdr,zel,zem,zen,zeo,zds,zdt,zdu,zf2,zf3,zep,zf4,zeq,zf5,zf6,zf7,zf8,zf9,zga,zer,zgb,zgc,zgd,zes,zge,zet,zeu,zgf,zev,zgg,zgh,zgi,zew,zgj,zgk,zgl,zgm,zgn,zgo,zex,zgp,zey,zez,zeA,zeB,zeC,zeD,zdv,zeE,zhf,zgq,zeF,zgr,zeG,zgs,zgt,zgu,zgv,zgw,zgx,zeH,zeI,zeJ,zgy,zgz,zeK,zgA,zeL,zeM,zgB,zgC,zhg,za8,zbM,zce,zbN,zcP,zbo,zbO,zbp,zbP,zal,zbq,zbr,zae,zbs,zbt,zbu,zcf,zbQ,za9,zbv,zbw,zaM,zba,zaU,zcz,zaz,zcg,zaq,zaV,zbR,zch,zbb,zbc,zbS,zbx,zaA,zbT,zbU,zci,zbd,zaf,zar,zas,zaa,zat,zaB,zaW,zbe,zbV,zcj,zbW,zcQ,zby,zbX,zbz,zbY,zam,zbA,zbB,zag,zbC,zbD,zbE,zck,zbZ,zbf,zbF,zbG,zaN,zbg,zaX,zcA,zaC,zcl,zau,zaY,zb0,zcm,zbh,zbi,zb1,zbH,zaD,zb2,zb3,zcn,zbj,zah,zav,zaw,zab,zax,zaE,zaZ,za0,za1,zai,zaj,zb4,zb5,zbk,zb6,zbI,zbJ,zco,zaF,zcR,za2,zaG,zan,za3,zaH,zay,zaO,zak,zaI,zaJ,zac,zaK,zaP,zbl,zb7,zdw,zdx,zcB,za4,zbm,zcS,zdy,zdz,zcC,zdA,zeN,zeO,zdB,zdC,zgD,zeP,zeQ,zgE,zeR,zeS,zgF,zgG,zgH,zgI,zgJ,zeT,zeU,zeV,zeW,zeX,zgK,zeY,zeZ,ze0,ze1,ze2,ze3,zgL,zgM,zgN,ze4,zdD,zgO,ze5,ze6,ze7,zgP,zgQ,zgR,zgS,ze8,zgT,ze9,zfa,zfb,zfc,zfd,zfe,zff,zdE,zcT,zcU,zcV,zcD,zcE,zfg,zfh,zfi,zfj,zfk,zgU,zfl,zfm,zfn,zgV,zgW,zgX,zgY,zgZ,zfo,zfp,zfq,zfr,zg0,zg1,zg2,zg3,zfs,zft,zg4,zfu,zfv,zfw,zfx,zfy,zdF,zfz,zfA,zfB,zfC,zfD,zg5,zfE,zg6,zg7,zg8,zg9,zha,zhb,zfF,zfG,zfH,zfI,zhc,zfJ,zfK,zfL,zfM,zfN,zb8,zcF,zcW,zcG,zfO,zcp,zcH,zcq,zcI,zaL,zcr,zcs,zao,zct,zcu,zcv,zcX,zcJ,zb9,zcw,zcx,zbn,zca,zbK,zdG,za5,zcY,zaQ,zbL,zcK,zcZ,zcb,zcc,zcL,zcy,za6,zcM,zcN,zc0,zcd,zap,zaR,zaS,zad,zaT,za7,F_FlowRun_go,if_true,if_false,zhh,zhi,cond_true,cond_false,List.zip,List.zipWith,List.length_cons,List.length_nil,Option.isSome_some,Bool.false_eq_true,reduceIte,reduceCtorEq,Nat.reduceEqDiff,Nat.reduceAdd,Nat.reduceLeDiff,Int.cast_ofNat_Int,decide_true,decide_false,Bool.and_true,Bool.true_and,Bool.and_false,Bool.false_and,Int.sub_zero,Int.reduceNeg,Nat.reduceLT,and_self,and_true,true_and,Bool.false_or,Bool.or_false,Bool.true_or,Bool.or_true,Bool.not_true,Bool.not_false,Int.natAbs_neg,Int.reduceSub,Int.reduceAdd,Int.reduceToNat,Int.natAbs_zero,Int.natAbs_one,Int.reduceLT,Int.reduceLE,Int.reduceGE,Int.reduceGT,decide_eq_true_eq,List.getElem?_cons_zero,List.getElem?_cons_succ,Nat.reduceSub,Int.reduceMul,Nat.reduceBEq,Nat.reducePow,Int.reducePow,and_false,false_and,eq_self,zc1,zcO _ _ zcB,IX,lim,Row.mv,n1,k1,k2,k3]
  | false =>
    cases r with
    | let_ k =>
      obtain ⟨rfl, rfl⟩ : at_ + 1 = a' ∧ _ = s' := ⟨congrArg Prod.fst (Option.some.inj q), congrArg Prod.snd (Option.some.inj q)⟩
      have n1 := worth_ok h f _ (w_more k tt.va)
      obtain ⟨H1, n2, S1⟩ := storeX h f (s.x + k)
      refine ⟨H1, S1, fun n d tu L0 ha => ⟨(Row.let_ k).mv, ?_⟩⟩
      rw [pre n d tu L0 ha]
      simp only [F_FlowRun_go, fb, List.getElem?_cons_zero, LG, List.drop]
      rw [castS]
      simp only [zdH,zdI,zdJ,zdK,zdL,zdM,zdN,zdO,zdP,zdQ,zc2,zdR,zdS,zdT,zdU,zc3,zdV,zdW,zdX,zdY,zc4,zfP,zfQ,zfR,zfS,zdZ,zd0,zd1,zd2,zd3,zd4,zd5,zd6,zc5,zc6,zd7,zd8,zd9,zea,zeb,zec,zed,zc7,zc8,zee,zhd,zhe,zc9,zda,zdb,zdc,zdd,zde,zfT,zfU,zfV,zef,zeg,zdf,zdg,zdh,zdi,zeh,zei,zfW,zfX,zfY,zdj,zdk,zdl,zdm,zdn,zfZ,zej,zdo,zek,zf0,zf1,zdp,zdq,zdr,zel,zem,zen,zeo,zds,zdt,zdu,zf2,zf3,zep,zf4,zeq,zf5,zf6,zf7,zf8,zf9,zga,zer,zgb,zgc,zgd,zes,zge,zet,zeu,zgf,zev,zgg,zgh,zgi,zew,zgj,zgk,zgl,zgm,zgn,zgo,zex,zgp,zey,zez,zeA,zeB,zeC,zeD,zdv,zeE,zhf,zgq,zeF,zgr,zeG,zgs,zgt,zgu,zgv,zgw,zgx,zeH,zeI,zeJ,zgy,zgz,zeK,zgA,zeL,zeM,zgB,zgC,zhg,za8,zbM,zce,zbN,zcP,zbo,zbO,zbp,zbP,zal,zbq,zbr,zae,zbs,zbt,zbu,zcf,zbQ,za9,zbv,zbw,zaM,zba,zaU,zcz,zaz,zcg,zaq,zaV,zbR,zch,zbb,zbc,zbS,zbx,zaA,zbT,zbU,zci,zbd,zaf,zar,zas,zaa,zat,zaB,zaW,zbe,zbV,zcj,zbW,zcQ,zby,zbX,zbz,zbY,zam,zbA,zbB,zag,zbC,zbD,zbE,zck,zbZ,zbf,zbF,zbG,zaN,zbg,zaX,zcA,zaC,zcl,zau,zaY,zb0,zcm,zbh,zbi,zb1,zbH,zaD,zb2,zb3,zcn,zbj,zah,zav,zaw,zab,zax,zaE,zaZ,za0,za1,zai,zaj,zb4,zb5,zbk,zb6,zbI,zbJ,zco,zaF,zcR,za2,zaG,zan,za3,zaH,zay,zaO,zak,zaI,zaJ,zac,zaK,zaP,zbl,zb7,zdw,zdx,zcB,za4,zbm,zcS,zdy,zdz,zcC,zdA,zeN,zeO,zdB,zdC,zgD,zeP,zeQ,zgE,zeR,zeS,zgF,zgG,zgH,zgI,zgJ,zeT,zeU,zeV,zeW,zeX,zgK,zeY,zeZ,ze0,ze1,ze2,ze3,zgL,zgM,zgN,ze4,zdD,zgO,ze5,ze6,ze7,zgP,zgQ,zgR,zgS,ze8,zgT,ze9,zfa,zfb,zfc,zfd,zfe,zff,zdE,zcT,zcU,zcV,zcD,zcE,zfg,zfh,zfi,zfj,zfk,zgU,zfl,zfm,zfn,zgV,zgW,zgX,zgY,zgZ,zfo,zfp,zfq,zfr,zg0,zg1,zg2,zg3,zfs,zft,zg4,zfu,zfv,zfw,zfx,zfy,zdF,zfz,zfA,zfB,zfC,zfD,zg5,zfE,zg6,zg7,zg8,zg9,zha,zhb,zfF,zfG,zfH,zfI,zhc,zfJ,zfK,zfL,zfM,zfN,zb8,zcF,zcW,zcG,zfO,zcp,zcH,zcq,zcI,zaL,zcr,zcs,zao,zct,zcu,zcv,zcX,zcJ,zb9,zcw,zcx,zbn,zca,zbK,zdG,za5,zcY,zaQ,zbL,zcK,zcZ,zcb,zcc,zcL,zcy,za6,zcM,zcN,zc0,zcd,zap,zaR,zaS,zad,zaT,za7,F_FlowRun_go,if_true,if_false,zhh,zhi,cond_true,cond_false,List.zip,List.zipWith,List.length_cons,List.length_nil,Option.isSome_some,Bool.false_eq_true,reduceIte,reduceCtorEq,Nat.reduceEqDiff,Nat.reduceAdd,Nat.reduceLeDiff,Int.cast_ofNat_Int,decide_true,decide_false,Bool.and_true,Bool.true_and,Bool.and_false,Bool.false_and,Int.sub_zero,Int.reduceNeg,Nat.reduceLT,and_self,and_true,true_and,Bool.false_or,Bool.or_false,Bool.true_or,Bool.or_true,Bool.not_true,Bool.not_false,Int.natAbs_neg,Int.reduceSub,Int.reduceAdd,Int.reduceToNat,Int.natAbs_zero,Int.natAbs_one,Int.reduceLT,Int.reduceLE,Int.reduceGE,Int.reduceGT,decide_eq_true_eq,List.getElem?_cons_zero,List.getElem?_cons_succ,Nat.reduceSub,Int.reduceMul,Nat.reduceBEq,Nat.reducePow,Int.reducePow,and_false,false_and,eq_self,zc1,zcO _ _ zcB,IX,lim,Row.mv,tt.mw,tt.ms,n1,n2]
    | rem x =>
      refine gd (show (if s.notes.length + 1 < 1000 then some (at_ + 1, { s with notes := s.notes ++ [nt x s.x] }) else none) = some (a', s') from q) fun hn q => ?_
      obtain ⟨rfl, rfl⟩ : at_ + 1 = a' ∧ _ = s' := ⟨congrArg Prod.fst (Option.some.inj q), congrArg Prod.snd (Option.some.inj q)⟩
      have n1 := valueX_ok h f
      have m3 : s.notes.length < 1048576 := by omega
      refine ⟨_, ⟨p, h'.note (nt x s.x) hn⟩, fun n d tu L0 ha => ⟨(Row.rem x).mv, ?_⟩⟩
      rw [pre n d tu L0 ha]
      simp only [F_FlowRun_go, fb, List.getElem?_cons_zero, LG, nt, List.drop]
      rw [castS]
      simp only [zdH,zdI,zdJ,zdK,zdL,zdM,zdN,zdO,zdP,zdQ,zc2,zdR,zdS,zdT,zdU,zc3,zdV,zdW,zdX,zdY,zc4,zfP,zfQ,zfR,zfS,zdZ,zd0,zd1,zd2,zd3,zd4,zd5,zd6,zc5,zc6,zd7,zd8,zd9,zea,zeb,zec,zed,zc7,zc8,zee,zhd,zhe,zc9,zda,zdb,zdc,zdd,zde,zfT,zfU,zfV,zef,zeg,zdf,zdg,zdh,zdi,zeh,zei,zfW,zfX,zfY,zdj,zdk,zdl,zdm,zdn,zfZ,zej,zdo,zek,zf0,zf1,zdp,zdq,zdr,zel,zem,zen,zeo,zds,zdt,zdu,zf2,zf3,zep,zf4,zeq,zf5,zf6,zf7,zf8,zf9,zga,zer,zgb,zgc,zgd,zes,zge,zet,zeu,zgf,zev,zgg,zgh,zgi,zew,zgj,zgk,zgl,zgm,zgn,zgo,zex,zgp,zey,zez,zeA,zeB,zeC,zeD,zdv,zeE,zhf,zgq,zeF,zgr,zeG,zgs,zgt,zgu,zgv,zgw,zgx,zeH,zeI,zeJ,zgy,zgz,zeK,zgA,zeL,zeM,zgB,zgC,zhg,za8,zbM,zce,zbN,zcP,zbo,zbO,zbp,zbP,zal,zbq,zbr,zae,zbs,zbt,zbu,zcf,zbQ,za9,zbv,zbw,zaM,zba,zaU,zcz,zaz,zcg,zaq,zaV,zbR,zch,zbb,zbc,zbS,zbx,zaA,zbT,zbU,zci,zbd,zaf,zar,zas,zaa,zat,zaB,zaW,zbe,zbV,zcj,zbW,zcQ,zby,zbX,zbz,zbY,zam,zbA,zbB,zag,zbC,zbD,zbE,zck,zbZ,zbf,zbF,zbG,zaN,zbg,zaX,zcA,zaC,zcl,zau,zaY,zb0,zcm,zbh,zbi,zb1,zbH,zaD,zb2,zb3,zcn,zbj,zah,zav,zaw,zab,zax,zaE,zaZ,za0,za1,zai,zaj,zb4,zb5,zbk,zb6,zbI,zbJ,zco,zaF,zcR,za2,zaG,zan,za3,zaH,zay,zaO,zak,zaI,zaJ,zac,zaK,zaP,zbl,zb7,zdw,zdx,zcB,za4,zbm,zcS,zdy,zdz,zcC,zdA,zeN,zeO,zdB,zdC,zgD,zeP,zeQ,zgE,zeR,zeS,zgF,zgG,zgH,zgI,zgJ,zeT,zeU,zeV,zeW,zeX,zgK,zeY,zeZ,ze0,ze1,ze2,ze3,zgL,zgM,zgN,ze4,zdD,zgO,ze5,ze6,ze7,zgP,zgQ,zgR,zgS,ze8,zgT,ze9,zfa,zfb,zfc,zfd,zfe,zff,zdE,zcT,zcU,zcV,zcD,zcE,zfg,zfh,zfi,zfj,zfk,zgU,zfl,zfm,zfn,zgV,zgW,zgX,zgY,zgZ,zfo,zfp,zfq,zfr,zg0,zg1,zg2,zg3,zfs,zft,zg4,zfu,zfv,zfw,zfx,zfy,zdF,zfz,zfA,zfB,zfC,zfD,zg5,zfE,zg6,zg7,zg8,zg9,zha,zhb,zfF,zfG,zfH,zfI,zhc,zfJ,zfK,zfL,zfM,zfN,zb8,zcF,zcW,zcG,zfO,zcp,zcH,zcq,zcI,zaL,zcr,zcs,zao,zct,zcu,zcv,zcX,zcJ,zb9,zcw,zcx,zbn,zca,zbK,zdG,za5,zcY,zaQ,zbL,zcK,zcZ,zcb,zcc,zcL,zcy,za6,zcM,zcN,zc0,zcd,zap,zaR,zaS,zad,zaT,za7,F_FlowRun_go,if_true,if_false,zhh,zhi,cond_true,cond_false,List.zip,List.zipWith,List.length_cons,List.length_nil,Option.isSome_some,Bool.false_eq_true,reduceIte,reduceCtorEq,Nat.reduceEqDiff,Nat.reduceAdd,Nat.reduceLeDiff,Int.cast_ofNat_Int,decide_true,decide_false,Bool.and_true,Bool.true_and,Bool.and_false,Bool.false_and,Int.sub_zero,Int.reduceNeg,Nat.reduceLT,and_self,and_true,true_and,Bool.false_or,Bool.or_false,Bool.true_or,Bool.or_true,Bool.not_true,Bool.not_false,Int.natAbs_neg,Int.reduceSub,Int.reduceAdd,Int.reduceToNat,Int.natAbs_zero,Int.natAbs_one,Int.reduceLT,Int.reduceLE,Int.reduceGE,Int.reduceGT,decide_eq_true_eq,List.getElem?_cons_zero,List.getElem?_cons_succ,Nat.reduceSub,Int.reduceMul,Nat.reduceBEq,Nat.reducePow,Int.reducePow,and_false,false_and,eq_self,zc1,zcO _ _ zcB,IX,lim,Row.mv,tt.notes,tt.mn,tt.mv,tt.na,n1,m3]
    | end_ => cases he
    | _ => cases hm
theorem go_end (h : Sx G A s H) (f : RFix G A F) (at_ : Nat) (mo : Int) {ln : Int} (hr : F.rows[at_]? = some (ln, .end_)) :
    ∀ n d : Nat, ∀ tu : MV, ∀ L0 : Loc, Z1 L0 → ∃ L', stmts (ev (PgC lf1 lg1) (n + 390) (d + 19)) (fb 0 F_FlowRun_go.body) (LG A at_ mo ((6248821358, tu) :: L0)) H = some (.ret (.int F.rows.length), L', H) := by
  obtain ⟨p, h'⟩ := id h
  have c5 := h'.ext _ _ f.ra
  have tt := h'.at f
  have hl := f.len
  have b1 : F.mv.length ≤ 1048576 := by rw [F.mv_len]; omega
  intro n d tu L0 ha
  refine ⟨LG A at_ mo [(6248821358, tu), (6852128163306360106612, Row.end_.mv)], ?_⟩
  rw [go_pre h f at_ mo hr n d tu L0 ha, ← F.mv_len]
  simp only [F_FlowRun_go, fb, List.getElem?_cons_zero, LG, List.drop]
  simp only [zdH,zdI,zdJ,zdK,zdL,zdM,zdN,zdO,zdP,zdQ,zc2,zdR,zdS,zdT,zdU,zc3,zdV,zdW,zdX,zdY,zc4,zfP,zfQ,zfR,zfS,zdZ,zd0,zd1,zd2,zd3,zd4,zd5,zd6,zc5,zc6,zd7,zd8,zd9,zea,zeb,zec,zed,zc7,zc8,zee,zhd,zhe,zc9,zda,zdb,zdc,zdd,zde,zfT,zfU,zfV,zef,zeg,zdf,zdg,zdh,zdi,zeh,zei,zfW,zfX,zfY,zdj,zdk,zdl,zdm,zdn,zfZ,zej,zdo,zek,zf0,zf1,zdp,zdq,zdr,zel,zem,zen,zeo,zds,zdt,zdu,zf2,zf3,zep,zf4,zeq,zf5,zf6,zf7,zf8,zf9,zga,zer,zgb,zgc,zgd,zes,zge,zet,zeu,zgf,zev,zgg,zgh,zgi,zew,zgj,zgk,zgl,zgm,zgn,zgo,zex,zgp,zey,zez,zeA,zeB,zeC,zeD,zdv,zeE,zhf,zgq,zeF,zgr,zeG,zgs,zgt,zgu,zgv,zgw,zgx,zeH,zeI,zeJ,zgy,zgz,zeK,zgA,zeL,zeM,zgB,zgC,zhg,za8,zbM,zce,zbN,zcP,zbo,zbO,zbp,zbP,zal,zbq,zbr,zae,zbs,zbt,zbu,zcf,zbQ,za9,zbv,zbw,zaM,zba,zaU,zcz,zaz,zcg,zaq,zaV,zbR,zch,zbb,zbc,zbS,zbx,zaA,zbT,zbU,zci,zbd,zaf,zar,zas,zaa,zat,zaB,zaW,zbe,zbV,zcj,zbW,zcQ,zby,zbX,zbz,zbY,zam,zbA,zbB,zag,zbC,zbD,zbE,zck,zbZ,zbf,zbF,zbG,zaN,zbg,zaX,zcA,zaC,zcl,zau,zaY,zb0,zcm,zbh,zbi,zb1,zbH,zaD,zb2,zb3,zcn,zbj,zah,zav,zaw,zab,zax,zaE,zaZ,za0,za1,zai,zaj,zb4,zb5,zbk,zb6,zbI,zbJ,zco,zaF,zcR,za2,zaG,zan,za3,zaH,zay,zaO,zak,zaI,zaJ,zac,zaK,zaP,zbl,zb7,zdw,zdx,zcB,za4,zbm,zcS,zdy,zdz,zcC,zdA,zeN,zeO,zdB,zdC,zgD,zeP,zeQ,zgE,zeR,zeS,zgF,zgG,zgH,zgI,zgJ,zeT,zeU,zeV,zeW,zeX,zgK,zeY,zeZ,ze0,ze1,ze2,ze3,zgL,zgM,zgN,ze4,zdD,zgO,ze5,ze6,ze7,zgP,zgQ,zgR,zgS,ze8,zgT,ze9,zfa,zfb,zfc,zfd,zfe,zff,zdE,zcT,zcU,zcV,zcD,zcE,zfg,zfh,zfi,zfj,zfk,zgU,zfl,zfm,zfn,zgV,zgW,zgX,zgY,zgZ,zfo,zfp,zfq,zfr,zg0,zg1,zg2,zg3,zfs,zft,zg4,zfu,zfv,zfw,zfx,zfy,zdF,zfz,zfA,zfB,zfC,zfD,zg5,zfE,zg6,zg7,zg8,zg9,zha,zhb,zfF,zfG,zfH,zfI,zhc,zfJ,zfK,zfL,zfM,zfN,zb8,zcF,zcW,zcG,zfO,zcp,zcH,zcq,zcI,zaL,zcr,zcs,zao,zct,zcu,zcv,zcX,zcJ,zb9,zcw,zcx,zbn,zca,zbK,zdG,za5,zcY,zaQ,zbL,zcK,zcZ,zcb,zcc,zcL,zcy,za6,zcM,zcN,zc0,zcd,zap,zaR,zaS,zad,zaT,za7,F_FlowRun_go,if_true,if_false,zhh,zhi,cond_true,cond_false,List.zip,List.zipWith,List.length_cons,List.length_nil,Option.isSome_some,Bool.false_eq_true,reduceIte,reduceCtorEq,Nat.reduceEqDiff,Nat.reduceAdd,Nat.reduceLeDiff,Int.cast_ofNat_Int,decide_true,decide_false,Bool.and_true,Bool.true_and,Bool.and_false,Bool.false_and,Int.sub_zero,Int.reduceNeg,Nat.reduceLT,and_self,and_true,true_and,Bool.false_or,Bool.or_false,Bool.true_or,Bool.or_true,Bool.not_true,Bool.not_false,Int.natAbs_neg,Int.reduceSub,Int.reduceAdd,Int.reduceToNat,Int.natAbs_zero,Int.natAbs_one,Int.reduceLT,Int.reduceLE,Int.reduceGE,Int.reduceGT,decide_eq_true_eq,List.getElem?_cons_zero,List.getElem?_cons_succ,Nat.reduceSub,Int.reduceMul,Nat.reduceBEq,Nat.reducePow,Int.reducePow,and_false,false_and,eq_self,zc1,zcO _ _ zcB,IX,lim,Row.mv,tt.flat,tt.rows,c5,b1]
theorem go_past (h : Sx G A s H) (f : RFix G A F) (at_ : Nat) (mo : Int) (hat : F.rows.length ≤ at_) :
    ∀ n d : Nat, ∀ tu : MV, ∀ L0 : Loc, ∃ L', stmts (ev (PgC lf1 lg1) (n + 390) (d + 19)) (fb 0 F_FlowRun_go.body) (LG A at_ mo ((6248821358, tu) :: L0)) H = some (.ret (.int at_), L', H) := by
  obtain ⟨p, h'⟩ := id h
  have c5 := h'.ext _ _ f.ra
  have tt := h'.at f
  have hl := f.len
  have b1 : F.mv.length ≤ 1048576 := by rw [F.mv_len]; omega
  have b2 : ((at_ : Int) ≥ (F.mv.length : Int)) := by rw [F.mv_len]; omega
  intro n d tu L0
  refine ⟨LG A at_ mo ((6248821358, tu) :: L0), ?_⟩
  simp only [F_FlowRun_go, fb, List.getElem?_cons_zero, LG]
  simp only [zdH,zdI,zdJ,zdK,zdL,zdM,zdN,zdO,zdP,zdQ,zc2,zdR,zdS,zdT,zdU,zc3,zdV,zdW,zdX,zdY,zc4,zfP,zfQ,zfR,zfS,zdZ,zd0,zd1,zd2,zd3,zd4,zd5,zd6,zc5,zc6,zd7,zd8,zd9,zea,zeb,zec,zed,zc7,zc8,zee,zhd,zhe,zc9,zda,zdb,zdc,zdd,zde,zfT,zfU,zfV,zef,zeg,zdf,zdg,zdh,zdi,zeh,zei,zfW,zfX,zfY,zdj,zdk,zdl,zdm,zdn,zfZ,zej,zdo,zek,zf0,zf1,zdp,zdq,zdr,zel,zem,zen,zeo,zds,zdt,zdu,zf2,zf3,zep,zf4,zeq,zf5,zf6,zf7,zf8,zf9,zga,zer,zgb,zgc,zgd,zes,zge,zet,zeu,zgf,zev,zgg,zgh,zgi,zew,zgj,zgk,zgl,zgm,zgn,zgo,zex,zgp,zey,zez,zeA,zeB,zeC,zeD,zdv,zeE,zhf,zgq,zeF,zgr,zeG,zgs,zgt,zgu,zgv,zgw,zgx,zeH,zeI,zeJ,zgy,zgz,zeK,zgA,zeL,zeM,zgB,zgC,zhg,za8,zbM,zce,zbN,zcP,zbo,zbO,zbp,zbP,zal,zbq,zbr,zae,zbs,zbt,zbu,zcf,zbQ,za9,zbv,zbw,zaM,zba,zaU,zcz,zaz,zcg,zaq,zaV,zbR,zch,zbb,zbc,zbS,zbx,zaA,zbT,zbU,zci,zbd,zaf,zar,zas,zaa,zat,zaB,zaW,zbe,zbV,zcj,zbW,zcQ,zby,zbX,zbz,zbY,zam,zbA,zbB,zag,zbC,zbD,zbE,zck,zbZ,zbf,zbF,zbG,zaN,zbg,zaX,zcA,zaC,zcl,zau,zaY,zb0,zcm,zbh,zbi,zb1,zbH,zaD,zb2,zb3,zcn,zbj,zah,zav,zaw,zab,zax,zaE,zaZ,za0,za1,zai,zaj,zb4,zb5,zbk,zb6,zbI,zbJ,zco,zaF,zcR,za2,zaG,zan,za3,zaH,zay,zaO,zak,zaI,zaJ,zac,zaK,zaP,zbl,zb7,zdw,zdx,zcB,za4,zbm,zcS,zdy,zdz,zcC,zdA,zeN,zeO,zdB,zdC,zgD,zeP,zeQ,zgE,zeR,zeS,zgF,zgG,zgH,zgI,zgJ,zeT,zeU,zeV,zeW,zeX,zgK,zeY,zeZ,ze0,ze1,ze2,ze3,zgL,zgM,zgN,ze4,zdD,zgO,ze5,ze6,ze7,zgP,zgQ,zgR,zgS,ze8,zgT,ze9,zfa,zfb,zfc,zfd,zfe,zff,zdE,zcT,zcU,zcV,zcD,zcE,zfg,zfh,zfi,zfj,zfk,zgU,zfl,zfm,zfn,zgV,zgW,zgX,zgY,zgZ,zfo,zfp,zfq,zfr,zg0,zg1,zg2,zg3,zfs,zft,zg4,zfu,zfv,zfw,zfx,zfy,zdF,zfz,zfA,zfB,zfC,zfD,zg5,zfE,zg6,zg7,zg8,zg9,zha,zhb,zfF,zfG,zfH,zfI,zhc,zfJ,zfK,zfL,zfM,zfN,zb8,zcF,zcW,zcG,zfO,zcp,zcH,zcq,zcI,zaL,zcr,zcs,zao,zct,zcu,zcv,zcX,zcJ,zb9,zcw,zcx,zbn,zca,zbK,zdG,za5,zcY,zaQ,zbL,zcK,zcZ,zcb,zcc,zcL,zcy,za6,zcM,zcN,zc0,zcd,zap,zaR,zaS,zad,zaT,za7,F_FlowRun_go,if_true,if_false,zhh,zhi,cond_true,cond_false,List.zip,List.zipWith,List.length_cons,List.length_nil,Option.isSome_some,Bool.false_eq_true,reduceIte,reduceCtorEq,Nat.reduceEqDiff,Nat.reduceAdd,Nat.reduceLeDiff,Int.cast_ofNat_Int,decide_true,decide_false,Bool.and_true,Bool.true_and,Bool.and_false,Bool.false_and,Int.sub_zero,Int.reduceNeg,Nat.reduceLT,and_self,and_true,true_and,Bool.false_or,Bool.or_false,Bool.true_or,Bool.or_true,Bool.not_true,Bool.not_false,Int.natAbs_neg,Int.reduceSub,Int.reduceAdd,Int.reduceToNat,Int.natAbs_zero,Int.natAbs_one,Int.reduceLT,Int.reduceLE,Int.reduceGE,Int.reduceGT,decide_eq_true_eq,List.getElem?_cons_zero,List.getElem?_cons_succ,Nat.reduceSub,Int.reduceMul,Nat.reduceBEq,Nat.reducePow,Int.reducePow,and_false,false_and,eq_self,zc1,zcO _ _ zcB,IX,lim,Row.mv,tt.flat,tt.rows,c5,b1,b2]
noncomputable def goR (F : Fl) (a : Nat) : Int := if F.rows.length ≤ a then (a : Int) else -1
theorem go_loop (f : RFix G A F) (mo : Int) :
    ∀ (k at_ : Nat) (s s' : RS) (H : MH) (a : Nat), Sx G A s H → itF F k (at_, s) = some (a, s') →
      ∃ H', Sx G A s' H' ∧ ∀ m d : Nat, k + 400 ≤ m → ∀ (i : Int) (L0 : Loc), (L0 = [] ∨ ∃ a b, L0 = [(6248821358, a), (6852128163306360106612, b)]) →
        (∃ L', (ev (PgC lf1 lg1) (m) (d + 19)).l (.nam 6248821358) (.rng i 1 k) (fb 0 F_FlowRun_go.body) (LG A at_ mo L0) H = some (.ret (.int (goR F a)), L', H')) ∨
        (∃ L' : Loc, (ev (PgC lf1 lg1) (m) (d + 19)).l (.nam 6248821358) (.rng i 1 k) (fb 0 F_FlowRun_go.body) (LG A at_ mo L0) H = some (.nxt, (6230994022, .ref A.r) :: (90484, .int a) :: L', H')) := by
  intro k
  induction k with
  | zero =>
    intro at_ s s' H a h q
    have q := Option.some.inj q
    obtain rfl : s = s' := congrArg Prod.snd q
    obtain rfl : at_ = a := congrArg Prod.fst q
    refine ⟨H, h, fun m d hm i L0 ha => .inr ⟨(6130987892, .int mo) :: L0, ?_⟩⟩
    obtain ⟨m, rfl⟩ : ∃ m', m = m' + 400 := ⟨m - 400, by omega⟩
    rfl
  | succ k ih =>
    intro at_ s s' H a h q
    have step : ∀ (m d : Nat) (i : Int) (L0 : Loc), (L0 = [] ∨ ∃ a b, L0 = [(6248821358, a), (6852128163306360106612, b)]) → ∃ L1 : Loc, Z1 L1 ∧ (ev (PgC lf1 lg1) (m + 401) (d + 19)).l (.nam 6248821358) (.rng i 1 (k + 1)) (fb 0 F_FlowRun_go.body) (LG A at_ mo L0) H = (stmts (ev (PgC lf1 lg1) (m + 400) (d + 19)) (fb 0 F_FlowRun_go.body) (LG A at_ mo ((6248821358, .int i) :: L1)) H).bind (klo3 (ev (PgC lf1 lg1) (m + 400) (d + 19)) (.nam 6248821358) (.rng (i + 1) 1 k) (fb 0 F_FlowRun_go.body)) := by
      intro m d i L0 ha
      rcases ha with rfl | ⟨a, b, rfl⟩
      · refine ⟨[], .inl rfl, ?_⟩
        rw [zdc, zdf]; rfl
      · refine ⟨[(6852128163306360106612, b)], .inr ⟨_, rfl⟩, ?_⟩
        rw [zdc, zdf]; rfl
    have stop : ∀ {v : Int}, (∀ n d : Nat, ∀ tu : MV, ∀ L0 : Loc, Z1 L0 → ∃ L', stmts (ev (PgC lf1 lg1) (n + 390) (d + 19)) (fb 0 F_FlowRun_go.body) (LG A at_ mo ((6248821358, tu) :: L0)) H = some (.ret (.int v), L', H)) → v = goR F a → s = s' →
        ∃ H', Sx G A s' H' ∧ ∀ m d : Nat, k + 1 + 400 ≤ m → ∀ (i : Int) (L0 : Loc), (L0 = [] ∨ ∃ a b, L0 = [(6248821358, a), (6852128163306360106612, b)]) →
        (∃ L', (ev (PgC lf1 lg1) (m) (d + 19)).l (.nam 6248821358) (.rng i 1 (k + 1)) (fb 0 F_FlowRun_go.body) (LG A at_ mo L0) H = some (.ret (.int (goR F a)), L', H')) ∨
        (∃ L' : Loc, (ev (PgC lf1 lg1) (m) (d + 19)).l (.nam 6248821358) (.rng i 1 (k + 1)) (fb 0 F_FlowRun_go.body) (LG A at_ mo L0) H = some (.nxt, (6230994022, .ref A.r) :: (90484, .int a) :: L', H')) := by
      rintro v n1 rfl rfl
      refine ⟨H, h, fun m d hm i L0 ha => .inl ?_⟩
      obtain ⟨m, rfl⟩ : ∃ m', m = m' + 401 := ⟨m - 401, by omega⟩
      obtain ⟨L1, g1, g2⟩ := step m d i L0 ha
      obtain ⟨L', e⟩ := n1 (m + 10) d (.int i) L1 g1
      exact ⟨L', by rw [g2, e, zdH, zeg]⟩
    unfold itF at q
    by_cases hat : F.rows.length ≤ at_
    · rw [if_pos (show F.rows.length ≤ (at_, s).1 from hat)] at q
      have q := Option.some.inj q
      obtain rfl : at_ = a := congrArg Prod.fst q
      exact stop (fun n d tu L0 _ => go_past h f at_ mo hat n d tu L0) (if_pos hat).symm (congrArg Prod.snd q)
    · rw [if_neg (show ¬ (F.rows.length ≤ (at_, s).1) from hat)] at q
      refine bnd2 q fun a1 s1 q1 q2 => bnd2 (f := fun p => if isEnd p.2 = true then some (F.rows.length, s) else oneRow at_ s p.2) q1 fun ln r hr q1 => ?_
      cases he : isEnd r with
      | true =>
        rw [show isEnd (ln, r).2 = true from he, if_pos rfl] at q1
        obtain rfl : r = .end_ := by cases r <;> first | rfl | cases he
        have q1 := Option.some.inj q1
        obtain rfl : F.rows.length = a1 := congrArg Prod.fst q1
        obtain rfl : s = s1 := congrArg Prod.snd q1
        rw [itF_end F (q := (F.rows.length, s)) (Nat.le_refl _)] at q2
        have q2 := Option.some.inj q2
        obtain rfl : F.rows.length = a := congrArg Prod.fst q2
        exact stop (go_end h f at_ mo hr) (if_pos (Nat.le_refl _)).symm (congrArg Prod.snd q2)
      | false =>
        rw [show isEnd (ln, r).2 = false from he, if_neg nofun] at q1
        obtain ⟨H1, S1, n1⟩ := go_row h f at_ mo hr he q1
        obtain ⟨H2, S2, n2⟩ := ih a1 s1 s' H1 a S1 q2
        refine ⟨H2, S2, fun m d hm i L0 ha => ?_⟩
        obtain ⟨m, rfl⟩ : ∃ m', m = m' + 401 := ⟨m - 401, by omega⟩
        obtain ⟨L1, g1, g2⟩ := step m d i L0 ha
        obtain ⟨b, e⟩ := n1 (m + 10) d (.int i) L1 g1
        rw [g2, e, zdH, zef]
        exact n2 (m + 400) d (by omega) (i + 1) _ (.inr ⟨_, _, rfl⟩)
theorem goX (h : Sx G A s H) (f : RFix G A F) (at_ k : Nat) (hk : k ≤ 200) {a : Nat} {s' : RS} (q : itF F k (at_, s) = some (a, s')) :
    ∃ H', (∀ n d : Nat, (ev (PgC lf1 lg1) (n + 620) (d + 20)).c (.fn 196254634976314992399582029673955626514985301736485678804054381246074043110747630893076508655744927424379866933103) [.ref A.r, .int at_, .int k] H = some (.int (goR F a), H')) ∧ Sx G A s' H' := by
  obtain ⟨H1, S1, n1⟩ := go_loop f k k at_ s s' H a h q
  refine ⟨H1, fun n d => ?_, S1⟩
  rw [ec_fn, callF_ _ _ _ zaW rfl rfl]
  obtain ⟨p, h'⟩ := id S1
  have c5 := h'.ext _ _ f.ra
  have tt := h'.at f
  have hl := f.len
  have b1' : F.rows.length ≤ 1048576 := by omega
  have b4 : (k : Int).natAbs < 1073741824 := by omega
  have n2 := n1 (n + 618) d (by omega) 0 [] (.inl rfl)
  have b3 := F.mv_len
  simp only [F_FlowRun_go, fb, List.getElem?_cons_zero, LG] at n2
  rcases n2 with ⟨L', n2⟩ | ⟨L', n2⟩
  · simp only [zdH,zdI,zdJ,zdK,zdL,zdM,zdN,zdO,zdP,zdQ,zc2,zdR,zdS,zdT,zdU,zc3,zdV,zdW,zdX,zdY,zc4,zfP,zfQ,zfR,zfS,zdZ,zd0,zd1,zd2,zd3,zd4,zd5,zd6,zc5,zc6,zd7,zd8,zd9,zea,zeb,zec,zed,zc7,zc8,zee,zhd,zhe,zc9,zda,zdb,zdc,zdd,zde,zfT,zfU,zfV,zef,zeg,zdf,zdg,zdh,zdi,zeh,zei,zfW,zfX,zfY,zdj,zdk,zdl,zdm,zdn,zfZ,zej,zdo,zek,zf0,zf1,zdp,zdq,zdr,zel,zem,zen,zeo,zds,zdt,zdu,zf2,zf3,zep,zf4,zeq,zf5,zf6,zf7,zf8,zf9,zga,zer,zgb,zgc,zgd,zes,zge,zet,zeu,zgf,zev,zgg,zgh,zgi,zew,zgj,zgk,zgl,zgm,zgn,zgo,zex,zgp,zey,zez,zeA,zeB,zeC,zeD,zdv,zeE,zhf,zgq,zeF,zgr,zeG,zgs,zgt,zgu,zgv,zgw,zgx,zeH,zeI,zeJ,zgy,zgz,zeK,zgA,zeL,zeM,zgB,zgC,zhg,za8,zbM,zce,zbN,zcP,zbo,zbO,zbp,zbP,zal,zbq,zbr,zae,zbs,zbt,zbu,zcf,zbQ,za9,zbv,zbw,zaM,zba,zaU,zcz,zaz,zcg,zaq,zaV,zbR,zch,zbb,zbc,zbS,zbx,zaA,zbT,zbU,zci,zbd,zaf,zar,zas,zaa,zat,zaB,zaW,zbe,zbV,zcj,zbW,zcQ,zby,zbX,zbz,zbY,zam,zbA,zbB,zag,zbC,zbD,zbE,zck,zbZ,zbf,zbF,zbG,zaN,zbg,zaX,zcA,zaC,zcl,zau,zaY,zb0,zcm,zbh,zbi,zb1,zbH,zaD,zb2,zb3,zcn,zbj,zah,zav,zaw,zab,zax,zaE,zaZ,za0,za1,zai,zaj,zb4,zb5,zbk,zb6,zbI,zbJ,zco,zaF,zcR,za2,zaG,zan,za3,zaH,zay,zaO,zak,zaI,zaJ,zac,zaK,zaP,zbl,zb7,zdw,zdx,zcB,za4,zbm,zcS,zdy,zdz,zcC,zdA,zeN,zeO,zdB,zdC,zgD,zeP,zeQ,zgE,zeR,zeS,zgF,zgG,zgH,zgI,zgJ,zeT,zeU,zeV,zeW,zeX,zgK,zeY,zeZ,ze0,ze1,ze2,ze3,zgL,zgM,zgN,ze4,zdD,zgO,ze5,ze6,ze7,zgP,zgQ,zgR,zgS,ze8,zgT,ze9,zfa,zfb,zfc,zfd,zfe,zff,zdE,zcT,zcU,zcV,zcD,zcE,zfg,zfh,zfi,zfj,zfk,zgU,zfl,zfm,zfn,zgV,zgW,zgX,zgY,zgZ,zfo,zfp,zfq,zfr,zg0,zg1,zg2,zg3,zfs,zft,zg4,zfu,zfv,zfw,zfx,zfy,zdF,zfz,zfA,zfB,zfC,zfD,zg5,zfE,zg6,zg7,zg8,zg9,zha,zhb,zfF,zfG,zfH,zfI,zhc,zfJ,zfK,zfL,zfM,zfN,zb8,zcF,zcW,zcG,zfO,zcp,zcH,zcq,zcI,zaL,zcr,zcs,zao,zct,zcu,zcv,zcX,zcJ,zb9,zcw,zcx,zbn,zca,zbK,zdG,za5,zcY,zaQ,zbL,zcK,zcZ,zcb,zcc,zcL,zcy,za6,zcM,zcN,zc0,zcd,zap,zaR,zaS,zad,zaT,za7,F_FlowRun_go,if_true,if_false,zhh,zhi,cond_true,cond_false,List.zip,List.zipWith,List.length_cons,List.length_nil,Option.isSome_some,Bool.false_eq_true,reduceIte,reduceCtorEq,Nat.reduceEqDiff,Nat.reduceAdd,Nat.reduceLeDiff,Int.cast_ofNat_Int,decide_true,decide_false,Bool.and_true,Bool.true_and,Bool.and_false,Bool.false_and,Int.sub_zero,Int.reduceNeg,Nat.reduceLT,and_self,and_true,true_and,Bool.false_or,Bool.or_false,Bool.true_or,Bool.or_true,Bool.not_true,Bool.not_false,Int.natAbs_neg,Int.reduceSub,Int.reduceAdd,Int.reduceToNat,Int.natAbs_zero,Int.natAbs_one,Int.reduceLT,Int.reduceLE,Int.reduceGE,Int.reduceGT,decide_eq_true_eq,List.getElem?_cons_zero,List.getElem?_cons_succ,Nat.reduceSub,Int.reduceMul,Nat.reduceBEq,Nat.reducePow,Int.reducePow,and_false,false_and,eq_self,zc1,zcO _ _ zcB,IX,lim,Row.mv,b4,Int.toNat_natCast,n2]
  · unfold goR
    by_cases hr : F.rows.length ≤ a
    · have b5 : (a : Int) ≥ (F.rows.length : Int) := by omega
      rw [if_pos hr]
      simp only [zdH,zdI,zdJ,zdK,zdL,zdM,zdN,zdO,zdP,zdQ,zc2,zdR,zdS,zdT,zdU,zc3,zdV,zdW,zdX,zdY,zc4,zfP,zfQ,zfR,zfS,zdZ,zd0,zd1,zd2,zd3,zd4,zd5,zd6,zc5,zc6,zd7,zd8,zd9,zea,zeb,zec,zed,zc7,zc8,zee,zhd,zhe,zc9,zda,zdb,zdc,zdd,zde,zfT,zfU,zfV,zef,zeg,zdf,zdg,zdh,zdi,zeh,zei,zfW,zfX,zfY,zdj,zdk,zdl,zdm,zdn,zfZ,zej,zdo,zek,zf0,zf1,zdp,zdq,zdr,zel,zem,zen,zeo,zds,zdt,zdu,zf2,zf3,zep,zf4,zeq,zf5,zf6,zf7,zf8,zf9,zga,zer,zgb,zgc,zgd,zes,zge,zet,zeu,zgf,zev,zgg,zgh,zgi,zew,zgj,zgk,zgl,zgm,zgn,zgo,zex,zgp,zey,zez,zeA,zeB,zeC,zeD,zdv,zeE,zhf,zgq,zeF,zgr,zeG,zgs,zgt,zgu,zgv,zgw,zgx,zeH,zeI,zeJ,zgy,zgz,zeK,zgA,zeL,zeM,zgB,zgC,zhg,za8,zbM,zce,zbN,zcP,zbo,zbO,zbp,zbP,zal,zbq,zbr,zae,zbs,zbt,zbu,zcf,zbQ,za9,zbv,zbw,zaM,zba,zaU,zcz,zaz,zcg,zaq,zaV,zbR,zch,zbb,zbc,zbS,zbx,zaA,zbT,zbU,zci,zbd,zaf,zar,zas,zaa,zat,zaB,zaW,zbe,zbV,zcj,zbW,zcQ,zby,zbX,zbz,zbY,zam,zbA,zbB,zag,zbC,zbD,zbE,zck,zbZ,zbf,zbF,zbG,zaN,zbg,zaX,zcA,zaC,zcl,zau,zaY,zb0,zcm,zbh,zbi,zb1,zbH,zaD,zb2,zb3,zcn,zbj,zah,zav,zaw,zab,zax,zaE,zaZ,za0,za1,zai,zaj,zb4,zb5,zbk,zb6,zbI,zbJ,zco,zaF,zcR,za2,zaG,zan,za3,zaH,zay,zaO,zak,zaI,zaJ,zac,zaK,zaP,zbl,zb7,zdw,zdx,zcB,za4,zbm,zcS,zdy,zdz,zcC,zdA,zeN,zeO,zdB,zdC,zgD,zeP,zeQ,zgE,zeR,zeS,zgF,zgG,zgH,zgI,zgJ,zeT,zeU,zeV,zeW,zeX,zgK,zeY,zeZ,ze0,ze1,ze2,ze3,zgL,zgM,zgN,ze4,zdD,zgO,ze5,ze6,ze7,zgP,zgQ,zgR,zgS,ze8,zgT,ze9,zfa,zfb,zfc,zfd,zfe,zff,zdE,zcT,zcU,zcV,zcD,zcE,zfg,zfh,zfi,zfj,zfk,zgU,zfl,zfm,zfn,zgV,zgW,zgX,zgY,zgZ,zfo,zfp,zfq,zfr,zg0,zg1,zg2,zg3,zfs,zft,zg4,zfu,zfv,zfw,zfx,zfy,zdF,zfz,zfA,zfB,zfC,zfD,zg5,zfE,zg6,zg7,zg8,zg9,zha,zhb,zfF,zfG,zfH,zfI,zhc,zfJ,zfK,zfL,zfM,zfN,zb8,zcF,zcW,zcG,zfO,zcp,zcH,zcq,zcI,zaL,zcr,zcs,zao,zct,zcu,zcv,zcX,zcJ,zb9,zcw,zcx,zbn,zca,zbK,zdG,za5,zcY,zaQ,zbL,zcK,zcZ,zcb,zcc,zcL,zcy,za6,zcM,zcN,zc0,zcd,zap,zaR,zaS,zad,zaT,za7,F_FlowRun_go,if_true,if_false,zhh,zhi,cond_true,cond_false,List.zip,List.zipWith,List.length_cons,List.length_nil,Option.isSome_some,Bool.false_eq_true,reduceIte,reduceCtorEq,Nat.reduceEqDiff,Nat.reduceAdd,Nat.reduceLeDiff,Int.cast_ofNat_Int,decide_true,decide_false,Bool.and_true,Bool.true_and,Bool.and_false,Bool.false_and,Int.sub_zero,Int.reduceNeg,Nat.reduceLT,and_self,and_true,true_and,Bool.false_or,Bool.or_false,Bool.true_or,Bool.or_true,Bool.not_true,Bool.not_false,Int.natAbs_neg,Int.reduceSub,Int.reduceAdd,Int.reduceToNat,Int.natAbs_zero,Int.natAbs_one,Int.reduceLT,Int.reduceLE,Int.reduceGE,Int.reduceGT,decide_eq_true_eq,List.getElem?_cons_zero,List.getElem?_cons_succ,Nat.reduceSub,Int.reduceMul,Nat.reduceBEq,Nat.reducePow,Int.reducePow,and_false,false_and,eq_self,zc1,zcO _ _ zcB,IX,lim,Row.mv,tt.flat,tt.rows,b4,Int.toNat_natCast,n2,c5,b1',b3,b5]
    · have b5 : ¬ ((a : Int) ≥ (F.rows.length : Int)) := by omega
      rw [if_neg hr]
      simp only [zdH,zdI,zdJ,zdK,zdL,zdM,zdN,zdO,zdP,zdQ,zc2,zdR,zdS,zdT,zdU,zc3,zdV,zdW,zdX,zdY,zc4,zfP,zfQ,zfR,zfS,zdZ,zd0,zd1,zd2,zd3,zd4,zd5,zd6,zc5,zc6,zd7,zd8,zd9,zea,zeb,zec,zed,zc7,zc8,zee,zhd,zhe,zc9,zda,zdb,zdc,zdd,zde,zfT,zfU,zfV,zef,zeg,zdf,zdg,zdh,zdi,zeh,zei,zfW,zfX,zfY,zdj,zdk,zdl,zdm,zdn,zfZ,zej,zdo,zek,zf0,zf1,zdp,zdq,zdr,zel,zem,zen,zeo,zds,zdt,zdu,zf2,zf3,zep,zf4,zeq,zf5,zf6,zf7,zf8,zf9,zga,zer,zgb,zgc,zgd,zes,zge,zet,zeu,zgf,zev,zgg,zgh,zgi,zew,zgj,zgk,zgl,zgm,zgn,zgo,zex,zgp,zey,zez,zeA,zeB,zeC,zeD,zdv,zeE,zhf,zgq,zeF,zgr,zeG,zgs,zgt,zgu,zgv,zgw,zgx,zeH,zeI,zeJ,zgy,zgz,zeK,zgA,zeL,zeM,zgB,zgC,zhg,za8,zbM,zce,zbN,zcP,zbo,zbO,zbp,zbP,zal,zbq,zbr,zae,zbs,zbt,zbu,zcf,zbQ,za9,zbv,zbw,zaM,zba,zaU,zcz,zaz,zcg,zaq,zaV,zbR,zch,zbb,zbc,zbS,zbx,zaA,zbT,zbU,zci,zbd,zaf,zar,zas,zaa,zat,zaB,zaW,zbe,zbV,zcj,zbW,zcQ,zby,zbX,zbz,zbY,zam,zbA,zbB,zag,zbC,zbD,zbE,zck,zbZ,zbf,zbF,zbG,zaN,zbg,zaX,zcA,zaC,zcl,zau,zaY,zb0,zcm,zbh,zbi,zb1,zbH,zaD,zb2,zb3,zcn,zbj,zah,zav,zaw,zab,zax,zaE,zaZ,za0,za1,zai,zaj,zb4,zb5,zbk,zb6,zbI,zbJ,zco,zaF,zcR,za2,zaG,zan,za3,zaH,zay,zaO,zak,zaI,zaJ,zac,zaK,zaP,zbl,zb7,zdw,zdx,zcB,za4,zbm,zcS,zdy,zdz,zcC,zdA,zeN,zeO,zdB,zdC,zgD,zeP,zeQ,zgE,zeR,zeS,zgF,zgG,zgH,zgI,zgJ,zeT,zeU,zeV,zeW,zeX,zgK,zeY,zeZ,ze0,ze1,ze2,ze3,zgL,zgM,zgN,ze4,zdD,zgO,ze5,ze6,ze7,zgP,zgQ,zgR,zgS,ze8,zgT,ze9,zfa,zfb,zfc,zfd,zfe,zff,zdE,zcT,zcU,zcV,zcD,zcE,zfg,zfh,zfi,zfj,zfk,zgU,zfl,zfm,zfn,zgV,zgW,zgX,zgY,zgZ,zfo,zfp,zfq,zfr,zg0,zg1,zg2,zg3,zfs,zft,zg4,zfu,zfv,zfw,zfx,zfy,zdF,zfz,zfA,zfB,zfC,zfD,zg5,zfE,zg6,zg7,zg8,zg9,zha,zhb,zfF,zfG,zfH,zfI,zhc,zfJ,zfK,zfL,zfM,zfN,zb8,zcF,zcW,zcG,zfO,zcp,zcH,zcq,zcI,zaL,zcr,zcs,zao,zct,zcu,zcv,zcX,zcJ,zb9,zcw,zcx,zbn,zca,zbK,zdG,za5,zcY,zaQ,zbL,zcK,zcZ,zcb,zcc,zcL,zcy,za6,zcM,zcN,zc0,zcd,zap,zaR,zaS,zad,zaT,za7,F_FlowRun_go,if_true,if_false,zhh,zhi,cond_true,cond_false,List.zip,List.zipWith,List.length_cons,List.length_nil,Option.isSome_some,Bool.false_eq_true,reduceIte,reduceCtorEq,Nat.reduceEqDiff,Nat.reduceAdd,Nat.reduceLeDiff,Int.cast_ofNat_Int,decide_true,decide_false,Bool.and_true,Bool.true_and,Bool.and_false,Bool.false_and,Int.sub_zero,Int.reduceNeg,Nat.reduceLT,and_self,and_true,true_and,Bool.false_or,Bool.or_false,Bool.true_or,Bool.or_true,Bool.not_true,Bool.not_false,Int.natAbs_neg,Int.reduceSub,Int.reduceAdd,Int.reduceToNat,Int.natAbs_zero,Int.natAbs_one,Int.reduceLT,Int.reduceLE,Int.reduceGE,Int.reduceGT,decide_eq_true_eq,List.getElem?_cons_zero,List.getElem?_cons_succ,Nat.reduceSub,Int.reduceMul,Nat.reduceBEq,Nat.reducePow,Int.reducePow,and_false,false_and,eq_self,zc1,zcO _ _ zcB,IX,lim,Row.mv,tt.flat,tt.rows,b4,Int.toNat_natCast,n2,c5,b1',b3,b5]
end
end Mn.Mg
end
section
set_option maxRecDepth 100000
namespace Mn.Mg
section
variable {G : Fz} {A : RA} {F : Fl} {p : Nat} {s : RS} {H : MH}
theorem lone_ok (h : Sx G A s H) (f : RFix G A F) (at_ : Nat) (hat : at_ < F.rows.length) {a' : Nat} {s' : RS} (q : stepF F (at_, s) = some (a', s')) :
    ∃ H', Sx G A s' H' ∧ ∀ n d : Nat, (ev (PgC lf1 lg1) (n + 400) (d + 20)).c (.fn 108760262707398718737978912631) [.ref A.r, .int at_] H = some (.int a', H') := by
  refine bnd2 (f := fun p => if isEnd p.2 = true then some (F.rows.length, s) else oneRow at_ s p.2) q fun ln r hr q => ?_
  obtain ⟨p, h'⟩ := id h
  have c5 := h'.ext _ _ f.ra
  have tt := h'.at f
  have hl := f.len
  have e1 := row_idx f hr
  have ok := f.ok _ (List.mem_of_getElem? hr)
  have b1 : F.mv.length ≤ 1048576 := by rw [F.mv_len]; omega
  have pre : ∀ n d : Nat, ∀ r2, stmts (ev (PgC lf1 lg1) (n + 399) (d + 19)) (.asg (.nam 6852128163306360106612) (.sub (.sub (.att (.att (.loc 24278382) 6013346164) 6214874995) (.loc 90484)) (.cst (.int 1))) :: r2) [(24278382, .ref A.r), (90484, .int at_)] H = stmts (ev (PgC lf1 lg1) (n + 399) (d + 19)) r2 [(24278382, .ref A.r), (90484, .int at_), (6852128163306360106612, r.mv)] H := by
    intro n d r2
    generalize r.mv = rv at e1
    simp only [zdH,zdI,zdJ,zdK,zdL,zdM,zdN,zdO,zdP,zdQ,zc2,zdR,zdS,zdT,zdU,zc3,zdV,zdW,zdX,zdY,zc4,zfP,zfQ,zfR,zfS,zdZ,zd0,zd1,zd2,zd3,zd4,zd5,zd6,zc5,zc6,zd7,zd8,zd9,zea,zeb,zec,zed,zc7,zc8,zee,zhd,zhe,zc9,zda,zdb,zdc,zdd,zde,zfT,zfU,zfV,zef,zeg,zdf,zdg,zdh,zdi,zeh,zei,zfW,zfX,zfY,zdj,zdk,zdl,zdm,zdn,zfZ,zej,zdo,zek,zf0,zf1,zdp,zdq,zdr,zel,zem,zen,zeo,zds,zdt,zdu,zf2,zf3,zep,zf4,zeq,zf5,zf6,zf7,zf8,zf9,zga,zer,zgb,zgc,zgd,zes,zge,zet,zeu,zgf,zev,zgg,zgh,zgi,zew,zgj,zgk,zgl,zgm,zgn,zgo,zex,zgp,zey,zez,zeA,zeB,zeC,zeD,zdv,zeE,zhf,zgq,zeF,zgr,zeG,zgs,zgt,zgu,zgv,zgw,zgx,zeH,zeI,zeJ,zgy,zgz,zeK,zgA,zeL,zeM,zgB,zgC,zhg,za8,zbM,zce,zbN,zcP,zbo,zbO,zbp,zbP,zal,zbq,zbr,zae,zbs,zbt,zbu,zcf,zbQ,za9,zbv,zbw,zaM,zba,zaU,zcz,zaz,zcg,zaq,zaV,zbR,zch,zbb,zbc,zbS,zbx,zaA,zbT,zbU,zci,zbd,zaf,zar,zas,zaa,zat,zaB,zaW,zbe,zbV,zcj,zbW,zcQ,zby,zbX,zbz,zbY,zam,zbA,zbB,zag,zbC,zbD,zbE,zck,zbZ,zbf,zbF,zbG,zaN,zbg,zaX,zcA,zaC,zcl,zau,zaY,zb0,zcm,zbh,zbi,zb1,zbH,zaD,zb2,zb3,zcn,zbj,zah,zav,zaw,zab,zax,zaE,zaZ,za0,za1,zai,zaj,zb4,zb5,zbk,zb6,zbI,zbJ,zco,zaF,zcR,za2,zaG,zan,za3,zaH,zay,zaO,zak,zaI,zaJ,zac,zaK,zaP,zbl,zb7,zdw,zdx,zcB,za4,zbm,zcS,zdy,zdz,zcC,zdA,zeN,zeO,zdB,zdC,zgD,zeP,zeQ,zgE,zeR,zeS,zgF,zgG,zgH,zgI,zgJ,zeT,zeU,zeV,zeW,zeX,zgK,zeY,zeZ,ze0,ze1,ze2,ze3,zgL,zgM,zgN,ze4,zdD,zgO,ze5,ze6,ze7,zgP,zgQ,zgR,zgS,ze8,zgT,ze9,zfa,zfb,zfc,zfd,zfe,zff,zdE,zcT,zcU,zcV,zcD,zcE,zfg,zfh,zfi,zfj,zfk,zgU,zfl,zfm,zfn,zgV,zgW,zgX,zgY,zgZ,zfo,zfp,zfq,zfr,zg0,zg1,zg2,zg3,zfs,zft,zg4,zfu,zfv,zfw,zfx,zfy,zdF,zfz,zfA,zfB,zfC,zfD,zg5,zfE,zg6,zg7,zg8,zg9,zha,zhb,zfF,zfG,zfH,zfI,zhc,zfJ,zfK,zfL,zfM,zfN,zb8,zcF,zcW,zcG,zfO,zcp,zcH,zcq,zcI,zaL,zcr,zcs,zao,zct,zcu,zcv,zcX,zcJ,zb9,zcw,zcx,zbn,zca,zbK,zdG,za5,zcY,zaQ,zbL,zcK,zcZ,zcb,zcc,zcL,zcy,za6,zcM,zcN,zc0,zcd,zap,zaR,zaS,zad,zaT,za7,F_FlowRun_go,if_true,if_false,zhh,zhi,cond_true,cond_false,List.zip,List.zipWith,List.length_cons,List.length_nil,Option.isSome_some,Bool.false_eq_true,reduceIte,reduceCtorEq,Nat.reduceEqDiff,Nat.reduceAdd,Nat.reduceLeDiff,Int.cast_ofNat_Int,decide_true,decide_false,Bool.and_true,Bool.true_and,Bool.and_false,Bool.false_and,Int.sub_zero,Int.reduceNeg,Nat.reduceLT,and_self,and_true,true_and,Bool.false_or,Bool.or_false,Bool.true_or,Bool.or_true,Bool.not_true,Bool.not_false,Int.natAbs_neg,Int.reduceSub,Int.reduceAdd,Int.reduceToNat,Int.natAbs_zero,Int.natAbs_one,Int.reduceLT,Int.reduceLE,Int.reduceGE,Int.reduceGT,decide_eq_true_eq,List.getElem?_cons_zero,List.getElem?_cons_succ,Nat.reduceSub,Int.reduceMul,Nat.reduceBEq,Nat.reducePow,Int.reducePow,and_false,false_and,eq_self,zc1,zcO _ _ zcB,IX,lim,Row.mv,F__law_one_row1,tt.flat,tt.rows,c5,e1]
  cases he : isEnd r with
  | true =>
    rw [show isEnd (ln, r).2 = true from he, if_pos rfl] at q
    obtain rfl : r = .end_ := by cases r <;> first | rfl | cases he
    have q := Option.some.inj q
    obtain rfl : F.rows.length = a' := congrArg Prod.fst q
    obtain rfl : s = s' := congrArg Prod.snd q
    refine ⟨H, h, fun n d => ?_⟩
    rw [ec_fn, callF_ _ _ _ f1_F__law_one_row rfl rfl, ← F.mv_len]
    simp only [F__law_one_row1, List.zip, List.zipWith]
    rw [pre]
    simp only [zdH,zdI,zdJ,zdK,zdL,zdM,zdN,zdO,zdP,zdQ,zc2,zdR,zdS,zdT,zdU,zc3,zdV,zdW,zdX,zdY,zc4,zfP,zfQ,zfR,zfS,zdZ,zd0,zd1,zd2,zd3,zd4,zd5,zd6,zc5,zc6,zd7,zd8,zd9,zea,zeb,zec,zed,zc7,zc8,zee,zhd,zhe,zc9,zda,zdb,zdc,zdd,zde,zfT,zfU,zfV,zef,zeg,zdf,zdg,zdh,zdi,zeh,zei,zfW,zfX,zfY,zdj,zdk,zdl,zdm,zdn,zfZ,zej,zdo,zek,zf0,zf1,zdp,zdq,zdr,zel,zem,zen,zeo,zds,zdt,zdu,zf2,zf3,zep,zf4,zeq,zf5,zf6,zf7,zf8,zf9,zga,zer,zgb,zgc,zgd,zes,zge,zet,zeu,zgf,zev,zgg,zgh,zgi,zew,zgj,zgk,zgl,zgm,zgn,zgo,zex,zgp,zey,zez,zeA,zeB,zeC,zeD,zdv,zeE,zhf,zgq,zeF,zgr,zeG,zgs,zgt,zgu,zgv,zgw,zgx,zeH,zeI,zeJ,zgy,zgz,zeK,zgA,zeL,zeM,zgB,zgC,zhg,za8,zbM,zce,zbN,zcP,zbo,zbO,zbp,zbP,zal,zbq,zbr,zae,zbs,zbt,zbu,zcf,zbQ,za9,zbv,zbw,zaM,zba,zaU,zcz,zaz,zcg,zaq,zaV,zbR,zch,zbb,zbc,zbS,zbx,zaA,zbT,zbU,zci,zbd,zaf,zar,zas,zaa,zat,zaB,zaW,zbe,zbV,zcj,zbW,zcQ,zby,zbX,zbz,zbY,zam,zbA,zbB,zag,zbC,zbD,zbE,zck,zbZ,zbf,zbF,zbG,zaN,zbg,zaX,zcA,zaC,zcl,zau,zaY,zb0,zcm,zbh,zbi,zb1,zbH,zaD,zb2,zb3,zcn,zbj,zah,zav,zaw,zab,zax,zaE,zaZ,za0,za1,zai,zaj,zb4,zb5,zbk,zb6,zbI,zbJ,zco,zaF,zcR,za2,zaG,zan,za3,zaH,zay,zaO,zak,zaI,zaJ,zac,zaK,zaP,zbl,zb7,zdw,zdx,zcB,za4,zbm,zcS,zdy,zdz,zcC,zdA,zeN,zeO,zdB,zdC,zgD,zeP,zeQ,zgE,zeR,zeS,zgF,zgG,zgH,zgI,zgJ,zeT,zeU,zeV,zeW,zeX,zgK,zeY,zeZ,ze0,ze1,ze2,ze3,zgL,zgM,zgN,ze4,zdD,zgO,ze5,ze6,ze7,zgP,zgQ,zgR,zgS,ze8,zgT,ze9,zfa,zfb,zfc,zfd,zfe,zff,zdE,zcT,zcU,zcV,zcD,zcE,zfg,zfh,zfi,zfj,zfk,zgU,zfl,zfm,zfn,zgV,zgW,zgX,zgY,zgZ,zfo,zfp,zfq,zfr,zg0,zg1,zg2,zg3,zfs,zft,zg4,zfu,zfv,zfw,zfx,zfy,zdF,zfz,zfA,zfB,zfC,zfD,zg5,zfE,zg6,zg7,zg8,zg9,zha,zhb,zfF,zfG,zfH,zfI,zhc,zfJ,zfK,zfL,zfM,zfN,zb8,zcF,zcW,zcG,zfO,zcp,zcH,zcq,zcI,zaL,zcr,zcs,zao,zct,zcu,zcv,zcX,zcJ,zb9,zcw,zcx,zbn,zca,zbK,zdG,za5,zcY,zaQ,zbL,zcK,zcZ,zcb,zcc,zcL,zcy,za6,zcM,zcN,zc0,zcd,zap,zaR,zaS,zad,zaT,za7,F_FlowRun_go,if_true,if_false,zhh,zhi,cond_true,cond_false,List.zip,List.zipWith,List.length_cons,List.length_nil,Option.isSome_some,Bool.false_eq_true,reduceIte,reduceCtorEq,Nat.reduceEqDiff,Nat.reduceAdd,Nat.reduceLeDiff,Int.cast_ofNat_Int,decide_true,decide_false,Bool.and_true,Bool.true_and,Bool.and_false,Bool.false_and,Int.sub_zero,Int.reduceNeg,Nat.reduceLT,and_self,and_true,true_and,Bool.false_or,Bool.or_false,Bool.true_or,Bool.or_true,Bool.not_true,Bool.not_false,Int.natAbs_neg,Int.reduceSub,Int.reduceAdd,Int.reduceToNat,Int.natAbs_zero,Int.natAbs_one,Int.reduceLT,Int.reduceLE,Int.reduceGE,Int.reduceGT,decide_eq_true_eq,List.getElem?_cons_zero,List.getElem?_cons_succ,Nat.reduceSub,Int.reduceMul,Nat.reduceBEq,Nat.reducePow,Int.reducePow,and_false,false_and,eq_self,zc1,zcO _ _ zcB,IX,lim,Row.mv,F__law_one_row1,tt.flat,tt.rows,c5,b1]
  | false =>
    rw [show isEnd (ln, r).2 = false from he, if_neg nofun] at q
    cases hm : isFlow r with
    | true =>
      obtain ⟨H', n1, S'⟩ := flowX h f at_ r ok hm q
      refine ⟨H', S', fun n d => ?_⟩
      obtain ⟨k, rest, hk, k1, k2, k3⟩ := flow_mv hm
      rw [ec_fn, callF_ _ _ _ f1_F__law_one_row rfl rfl]
      simp only [F__law_one_row1, List.zip, List.zipWith]
      rw [pre]
      rw [hk] at n1 ⊢
      simp only [zdH,zdI,zdJ,zdK,zdL,zdM,zdN,zdO,zdP,zdQ,zc2,zdR,zdS,zdT,zdU,zc3,zdV,zdW,zdX,zdY,zc4,zfP,zfQ,zfR,zfS,zdZ,zd0,zd1,zd2,zd3,zd4,zd5,zd6,zc5,zc6,zd7,zd8,zd9,zea,zeb,zec,zed,zc7,zc8,zee,zhd,zhe,zc9,zda,zdb,zdc,zdd,zde,zfT,zfU,zfV,zef,zeg,zdf,zdg,zdh,zdi,zeh,zei,zfW,zfX,zfY,zdj,zdk,zdl,zdm,zdn,zfZ,zej,zdo,zek,zf0,zf1,zdp,zdq,zdr,zel,zem,zen,zeo,zds,zdt,zdu,zf2,zf3,zep,zf4,zeq,zf5,zf6,zf7,zf8,zf9,zga,zer,zgb,zgc,zgd,zes,zge,zet,zeu,zgf,zev,zgg,zgh,zgi,zew,zgj,zgk,zgl,zgm,zgn,zgo,zex,zgp,zey,zez,zeA,zeB,zeC,zeD,zdv,zeE,zhf,zgq,zeF,zgr,zeG,zgs,zgt,zgu,zgv,zgw,zgx,zeH,zeI,zeJ,zgy,zgz,zeK,zgA,zeL,zeM,zgB,zgC,zhg,za8,zbM,zce,zbN,zcP,zbo,zbO,zbp,zbP,zal,zbq,zbr,zae,zbs,zbt,zbu,zcf,zbQ,za9,zbv,zbw,zaM,zba,zaU,zcz,zaz,zcg,zaq,zaV,zbR,zch,zbb,zbc,zbS,zbx,zaA,zbT,zbU,zci,zbd,zaf,zar,zas,zaa,zat,zaB,zaW,zbe,zbV,zcj,zbW,zcQ,zby,zbX,zbz,zbY,zam,zbA,zbB,zag,zbC,zbD,zbE,zck,zbZ,zbf,zbF,zbG,zaN,zbg,zaX,zcA,zaC,zcl,zau,zaY,zb0,zcm,zbh,zbi,zb1,zbH,zaD,zb2,zb3,zcn,zbj,zah,zav,zaw,zab,zax,zaE,zaZ,za0,za1,zai,zaj,zb4,zb5,zbk,zb6,zbI,zbJ,zco,zaF,zcR,za2,zaG,zan,za3,zaH,zay,zaO,zak,zaI,zaJ,zac,zaK,zaP,zbl,zb7,zdw,zdx,zcB,za4,zbm,zcS,zdy,zdz,zcC,zdA,zeN,zeO,zdB,zdC,zgD,zeP,zeQ,zgE,zeR,zeS,zgF,zgG,zgH,zgI,zgJ,zeT,zeU,zeV,zeW,zeX,zgK,zeY,zeZ,ze0,ze1,ze2,ze3,zgL,zgM,zgN,ze4,zdD,zgO,ze5,ze6,ze7,zgP,zgQ,zgR,zgS,ze8,zgT,ze9,zfa,zfb,zfc,zfd,zfe,zff,zdE,zcT,zcU,zcV,zcD,zcE,zfg,zfh,zfi,zfj,zfk,zgU,zfl,zfm,zfn,zgV,zgW,zgX,zgY,zgZ,zfo,zfp,zfq,zfr,zg0,zg1,zg2,zg3,zfs,zft,zg4,zfu,zfv,zfw,zfx,zfy,zdF,zfz,zfA,zfB,zfC,zfD,zg5,zfE,zg6,zg7,zg8,zg9,zha,zhb,zfF,zfG,zfH,zfI,zhc,zfJ,zfK,zfL,zfM,zfN,zb8,zcF,zcW,zcG,zfO,zcp,zcH,zcq,zcI,zaL,zcr,zcs,zao,zct,zcu,zcv,zcX,zcJ,zb9,zcw,zcx,zbn,zca,zbK,zdG,za5,zcY,zaQ,zbL,zcK,zcZ,zcb,zcc,zcL,zcy,za6,zcM,zcN,zc0,zcd,zap,zaR,zaS,zad,zaT,za7,F_FlowRun_go,if_true,if_false,zhh,zhi,cond_true,cond_false,List.zip,List.zipWith,List.length_cons,List.length_nil,Option.isSome_some,Bool.false_eq_true,reduceIte,reduceCtorEq,Nat.reduceEqDiff,Nat.reduceAdd,Nat.reduceLeDiff,Int.cast_ofNat_Int,decide_true,decide_false,Bool.and_true,Bool.true_and,Bool.and_false,Bool.false_and,Int.sub_zero,Int.reduceNeg,Nat.reduceLT,and_self,and_true,true_and,Bool.false_or,Bool.or_false,Bool.true_or,Bool.or_true,Bool.not_true,Bool.not_false,Int.natAbs_neg,Int.reduceSub,Int.reduceAdd,Int.reduceToNat,Int.natAbs_zero,Int.natAbs_one,Int.reduceLT,Int.reduceLE,Int.reduceGE,Int.reduceGT,decide_eq_true_eq,List.getElem?_cons_zero,List.getElem?_cons_succ,Nat.reduceSub,Int.reduceMul,Nat.reduceBEq,Nat.reducePow,Int.reducePow,and_false,false_and,eq_self,zc1,zcO _ _ zcB,IX,lim,Row.mv,F__law_one_row1,n1,k1,k2,k3]
    | false =>
      cases r with
      | let_ k =>
        obtain ⟨rfl, rfl⟩ : at_ + 1 = a' ∧ _ = s' := ⟨congrArg Prod.fst (Option.some.inj q), congrArg Prod.snd (Option.some.inj q)⟩
        have n1 := w_more k tt.va
        have va := tt.va
        refine ⟨_, ⟨p, h'.store (s.x + k) s.i h'.hi⟩, fun n d => ?_⟩
        rw [ec_fn, callF_ _ _ _ f1_F__law_one_row rfl rfl, castS]
        simp only [F__law_one_row1, List.zip, List.zipWith]
        rw [pre]
        simp only [zdH,zdI,zdJ,zdK,zdL,zdM,zdN,zdO,zdP,zdQ,zc2,zdR,zdS,zdT,zdU,zc3,zdV,zdW,zdX,zdY,zc4,zfP,zfQ,zfR,zfS,zdZ,zd0,zd1,zd2,zd3,zd4,zd5,zd6,zc5,zc6,zd7,zd8,zd9,zea,zeb,zec,zed,zc7,zc8,zee,zhd,zhe,zc9,zda,zdb,zdc,zdd,zde,zfT,zfU,zfV,zef,zeg,zdf,zdg,zdh,zdi,zeh,zei,zfW,zfX,zfY,zdj,zdk,zdl,zdm,zdn,zfZ,zej,zdo,zek,zf0,zf1,zdp,zdq,zdr,zel,zem,zen,zeo,zds,zdt,zdu,zf2,zf3,zep,zf4,zeq,zf5,zf6,zf7,zf8,zf9,zga,zer,zgb,zgc,zgd,zes,zge,zet,zeu,zgf,zev,zgg,zgh,zgi,zew,zgj,zgk,zgl,zgm,zgn,zgo,zex,zgp,zey,zez,zeA,zeB,zeC,zeD,zdv,zeE,zhf,zgq,zeF,zgr,zeG,zgs,zgt,zgu,zgv,zgw,zgx,zeH,zeI,zeJ,zgy,zgz,zeK,zgA,zeL,zeM,zgB,zgC,zhg,za8,zbM,zce,zbN,zcP,zbo,zbO,zbp,zbP,zal,zbq,zbr,zae,zbs,zbt,zbu,zcf,zbQ,za9,zbv,zbw,zaM,zba,zaU,zcz,zaz,zcg,zaq,zaV,zbR,zch,zbb,zbc,zbS,zbx,zaA,zbT,zbU,zci,zbd,zaf,zar,zas,zaa,zat,zaB,zaW,zbe,zbV,zcj,zbW,zcQ,zby,zbX,zbz,zbY,zam,zbA,zbB,zag,zbC,zbD,zbE,zck,zbZ,zbf,zbF,zbG,zaN,zbg,zaX,zcA,zaC,zcl,zau,zaY,zb0,zcm,zbh,zbi,zb1,zbH,zaD,zb2,zb3,zcn,zbj,zah,zav,zaw,zab,zax,zaE,zaZ,za0,za1,zai,zaj,zb4,zb5,zbk,zb6,zbI,zbJ,zco,zaF,zcR,za2,zaG,zan,za3,zaH,zay,zaO,zak,zaI,zaJ,zac,zaK,zaP,zbl,zb7,zdw,zdx,zcB,za4,zbm,zcS,zdy,zdz,zcC,zdA,zeN,zeO,zdB,zdC,zgD,zeP,zeQ,zgE,zeR,zeS,zgF,zgG,zgH,zgI,zgJ,zeT,zeU,zeV,zeW,zeX,zgK,zeY,zeZ,ze0,ze1,ze2,ze3,zgL,zgM,zgN,ze4,zdD,zgO,ze5,ze6,ze7,zgP,zgQ,zgR,zgS,ze8,zgT,ze9,zfa,zfb,zfc,zfd,zfe,zff,zdE,zcT,zcU,zcV,zcD,zcE,zfg,zfh,zfi,zfj,zfk,zgU,zfl,zfm,zfn,zgV,zgW,zgX,zgY,zgZ,zfo,zfp,zfq,zfr,zg0,zg1,zg2,zg3,zfs,zft,zg4,zfu,zfv,zfw,zfx,zfy,zdF,zfz,zfA,zfB,zfC,zfD,zg5,zfE,zg6,zg7,zg8,zg9,zha,zhb,zfF,zfG,zfH,zfI,zhc,zfJ,zfK,zfL,zfM,zfN,zb8,zcF,zcW,zcG,zfO,zcp,zcH,zcq,zcI,zaL,zcr,zcs,zao,zct,zcu,zcv,zcX,zcJ,zb9,zcw,zcx,zbn,zca,zbK,zdG,za5,zcY,zaQ,zbL,zcK,zcZ,zcb,zcc,zcL,zcy,za6,zcM,zcN,zc0,zcd,zap,zaR,zaS,zad,zaT,za7,F_FlowRun_go,if_true,if_false,zhh,zhi,cond_true,cond_false,List.zip,List.zipWith,List.length_cons,List.length_nil,Option.isSome_some,Bool.false_eq_true,reduceIte,reduceCtorEq,Nat.reduceEqDiff,Nat.reduceAdd,Nat.reduceLeDiff,Int.cast_ofNat_Int,decide_true,decide_false,Bool.and_true,Bool.true_and,Bool.and_false,Bool.false_and,Int.sub_zero,Int.reduceNeg,Nat.reduceLT,and_self,and_true,true_and,Bool.false_or,Bool.or_false,Bool.true_or,Bool.or_true,Bool.not_true,Bool.not_false,Int.natAbs_neg,Int.reduceSub,Int.reduceAdd,Int.reduceToNat,Int.natAbs_zero,Int.natAbs_one,Int.reduceLT,Int.reduceLE,Int.reduceGE,Int.reduceGT,decide_eq_true_eq,List.getElem?_cons_zero,List.getElem?_cons_succ,Nat.reduceSub,Int.reduceMul,Nat.reduceBEq,Nat.reducePow,Int.reducePow,and_false,false_and,eq_self,zc1,zcO _ _ zcB,IX,lim,Row.mv,F__law_one_row1,tt.values,g1_F__law_worth,f1_F__law_worth,n1,va,vK,vL,pX,valD]
      | rem x =>
        refine gd (show (if s.notes.length + 1 < 1000 then some (at_ + 1, { s with notes := s.notes ++ [nt x s.x] }) else none) = some (a', s') from q) fun hn q => ?_
        obtain ⟨rfl, rfl⟩ : at_ + 1 = a' ∧ _ = s' := ⟨congrArg Prod.fst (Option.some.inj q), congrArg Prod.snd (Option.some.inj q)⟩
        have m3 : s.notes.length < 1048576 := by omega
        refine ⟨_, ⟨p, h'.note (nt x s.x) hn⟩, fun n d => ?_⟩
        rw [ec_fn, callF_ _ _ _ f1_F__law_one_row rfl rfl, castS]
        simp only [F__law_one_row1, List.zip, List.zipWith]
        rw [pre]
        simp only [zdH,zdI,zdJ,zdK,zdL,zdM,zdN,zdO,zdP,zdQ,zc2,zdR,zdS,zdT,zdU,zc3,zdV,zdW,zdX,zdY,zc4,zfP,zfQ,zfR,zfS,zdZ,zd0,zd1,zd2,zd3,zd4,zd5,zd6,zc5,zc6,zd7,zd8,zd9,zea,zeb,zec,zed,zc7,zc8,zee,zhd,zhe,zc9,zda,zdb,zdc,zdd,zde,zfT,zfU,zfV,zef,zeg,zdf,zdg,zdh,zdi,zeh,zei,zfW,zfX,zfY,zdj,zdk,zdl,zdm,zdn,zfZ,zej,zdo,zek,zf0,zf1,zdp,zdq,zdr,zel,zem,zen,zeo,zds,zdt,zdu,zf2,zf3,zep,zf4,zeq,zf5,zf6,zf7,zf8,zf9,zga,zer,zgb,zgc,zgd,zes,zge,zet,zeu,zgf,zev,zgg,zgh,zgi,zew,zgj,zgk,zgl,zgm,zgn,zgo,zex,zgp,zey,zez,zeA,zeB,zeC,zeD,zdv,zeE,zhf,zgq,zeF,zgr,zeG,zgs,zgt,zgu,zgv,zgw,zgx,zeH,zeI,zeJ,zgy,zgz,zeK,zgA,zeL,zeM,zgB,zgC,zhg,za8,zbM,zce,zbN,zcP,zbo,zbO,zbp,zbP,zal,zbq,zbr,zae,zbs,zbt,zbu,zcf,zbQ,za9,zbv,zbw,zaM,zba,zaU,zcz,zaz,zcg,zaq,zaV,zbR,zch,zbb,zbc,zbS,zbx,zaA,zbT,zbU,zci,zbd,zaf,zar,zas,zaa,zat,zaB,zaW,zbe,zbV,zcj,zbW,zcQ,zby,zbX,zbz,zbY,zam,zbA,zbB,zag,zbC,zbD,zbE,zck,zbZ,zbf,zbF,zbG,zaN,zbg,zaX,zcA,zaC,zcl,zau,zaY,zb0,zcm,zbh,zbi,zb1,zbH,zaD,zb2,zb3,zcn,zbj,zah,zav,zaw,zab,zax,zaE,zaZ,za0,za1,zai,zaj,zb4,zb5,zbk,zb6,zbI,zbJ,zco,zaF,zcR,za2,zaG,zan,za3,zaH,zay,zaO,zak,zaI,zaJ,zac,zaK,zaP,zbl,zb7,zdw,zdx,zcB,za4,zbm,zcS,zdy,zdz,zcC,zdA,zeN,zeO,zdB,zdC,zgD,zeP,zeQ,zgE,zeR,zeS,zgF,zgG,zgH,zgI,zgJ,zeT,zeU,zeV,zeW,zeX,zgK,zeY,zeZ,ze0,ze1,ze2,ze3,zgL,zgM,zgN,ze4,zdD,zgO,ze5,ze6,ze7,zgP,zgQ,zgR,zgS,ze8,zgT,ze9,zfa,zfb,zfc,zfd,zfe,zff,zdE,zcT,zcU,zcV,zcD,zcE,zfg,zfh,zfi,zfj,zfk,zgU,zfl,zfm,zfn,zgV,zgW,zgX,zgY,zgZ,zfo,zfp,zfq,zfr,zg0,zg1,zg2,zg3,zfs,zft,zg4,zfu,zfv,zfw,zfx,zfy,zdF,zfz,zfA,zfB,zfC,zfD,zg5,zfE,zg6,zg7,zg8,zg9,zha,zhb,zfF,zfG,zfH,zfI,zhc,zfJ,zfK,zfL,zfM,zfN,zb8,zcF,zcW,zcG,zfO,zcp,zcH,zcq,zcI,zaL,zcr,zcs,zao,zct,zcu,zcv,zcX,zcJ,zb9,zcw,zcx,zbn,zca,zbK,zdG,za5,zcY,zaQ,zbL,zcK,zcZ,zcb,zcc,zcL,zcy,za6,zcM,zcN,zc0,zcd,zap,zaR,zaS,zad,zaT,za7,F_FlowRun_go,if_true,if_false,zhh,zhi,cond_true,cond_false,List.zip,List.zipWith,List.length_cons,List.length_nil,Option.isSome_some,Bool.false_eq_true,reduceIte,reduceCtorEq,Nat.reduceEqDiff,Nat.reduceAdd,Nat.reduceLeDiff,Int.cast_ofNat_Int,decide_true,decide_false,Bool.and_true,Bool.true_and,Bool.and_false,Bool.false_and,Int.sub_zero,Int.reduceNeg,Nat.reduceLT,and_self,and_true,true_and,Bool.false_or,Bool.or_false,Bool.true_or,Bool.or_true,Bool.not_true,Bool.not_false,Int.natAbs_neg,Int.reduceSub,Int.reduceAdd,Int.reduceToNat,Int.natAbs_zero,Int.natAbs_one,Int.reduceLT,Int.reduceLE,Int.reduceGE,Int.reduceGT,decide_eq_true_eq,List.getElem?_cons_zero,List.getElem?_cons_succ,Nat.reduceSub,Int.reduceMul,Nat.reduceBEq,Nat.reducePow,Int.reducePow,and_false,false_and,eq_self,zc1,zcO _ _ zcB,IX,lim,Row.mv,F__law_one_row1,tt.values,tt.notes,tt.mn,tt.na,tt.va,vK,vX,m3,nt]
      | end_ => cases he
      | _ => cases hm
end
end Mn.Mg
end
section
set_option maxRecDepth 100000
namespace Mn.Mg
structure Grew (H H' : MH) : Prop where
  next : H.next ≤ H'.next
  get : ∀ k, k < H.next → H'.get k = H.get k
theorem Grew.refl (H : MH) : Grew H H := ⟨Nat.le_refl _, fun _ _ => rfl⟩
theorem Grew.trans {H1 H2 H3 : MH} (x : Grew H1 H2) (y : Grew H2 H3) : Grew H1 H3 := ⟨Nat.le_trans x.next y.next, fun k h => (y.get k (Nat.lt_of_lt_of_le h x.next)).trans (x.get k h)⟩
theorem Grew.new {H H' : MH} (x : Grew H H') (o : MO) : Grew H (H'.new o) := ⟨Nat.le_succ_of_le x.next, fun k h => (new_ne _ _ _ (Nat.ne_of_lt (Nat.lt_of_lt_of_le h x.next))).trans (x.get k h)⟩
theorem Grew.upd {H H' : MH} (x : Grew H H') {a : Nat} (o : MO) (h : H.next ≤ a) : Grew H (H'.upd a o) := ⟨x.next, fun k hk => (upd_ne _ _ _ _ (Nat.ne_of_lt (Nat.lt_of_lt_of_le hk h))).trans (x.get k hk)⟩
theorem upd_upd (H : MH) (k : Nat) (a b : MO) : (H.upd k a).upd k b = H.upd k b := by
  unfold MH.upd
  congr 1
  funext j
  dsimp only
  split <;> rfl
noncomputable def drawF (sl : List Int) (k : Nat) (below : Int) : Int := match sl[k]? with
  | some i => Int.fmod (i.natAbs : Int) below
  | none => Int.fmod (3 * (k : Int) + Int.fdiv (k : Int) 2 + 1) below
theorem drawF_range (sl : List Int) (k : Nat) (below : Int) (hb : 0 < below) : 0 ≤ drawF sl k below ∧ drawF sl k below < below := by
  unfold drawF
  split <;> exact fmod_range _ _ hb
theorem draw_ok (sl : List Int) (k : Nat) (below : Int) (hb : 0 < below) (hk : k < 1000) (H : MH) (a b : Nat) (hab : b ≠ a) (h2 : H.get a = some (.list [.ref b, .int (k : Int)])) (h1 : H.get b = some (.list (sl.map .int))) (hl : sl.length < 100) :
    ∀ n d : Nat, (ev (PgC lf1 lg1) (n + 30) (d + 2)).c (.fn 6482616824352480584055) [.ref a, .int below] H = some (.int (drawF sl k below), H.upd a (.list [.ref b, .int ((k : Int) + 1)])) := by
  have b1 : ¬ (below = 0) := by omega
  have b2 : sl.length ≤ 1048576 := by omega
  have u1 := upd_eq H a (.list [.ref b, .int ((k : Int) + 1)])
  have u2 := upd_ne H a b (.list [.ref b, .int ((k : Int) + 1)]) hab
  by_cases hs : k < sl.length
  · have e0 : sl[k]? = some sl[k] := List.getElem?_eq_getElem hs
    have e1 : idxL (sl.map MV.int) (k : Int) = some (.int sl[k]) := by
      rw [idx_nat _ k rfl (by omega), List.getElem?_map, e0]; rfl
    have hs' : ((k : Int) < (sl.length : Int)) := by omega
    intro n d
    rw [show drawF sl k below = Int.fmod (sl[k].natAbs : Int) below by unfold drawF; rw [e0], ec_fn, callF_ _ _ _ f1_F__law_draw rfl rfl]
    simp only [zdH,zdI,zdJ,zdK,zdL,zdM,zdN,zdO,zdP,zdQ,zc2,zdR,zdS,zdT,zdU,zc3,zdV,zdW,zdX,zdY,zc4,zfP,zfQ,zfR,zfS,zdZ,zd0,zd1,zd2,zd3,zd4,zd5,zd6,zc5,zc6,zd7,zd8,zd9,zea,zeb,zec,zed,zc7,zc8,zee,zhd,zhe,zc9,zda,zdb,zdc,zdd,zde,zfT,zfU,zfV,zef,zeg,zdf,zdg,zdh,zdi,zeh,zei,zfW,zfX,zfY,zdj,zdk,zdl,zdm,zdn,zfZ,zej,zdo,zek,zf0,zf1,zdp,zdq,zdr,zel,zem,zen,zeo,zds,zdt,zdu,zf2,zf3,zep,zf4,zeq,zf5,zf6,zf7,zf8,zf9,zga,zer,zgb,zgc,zgd,zes,zge,zet,zeu,zgf,zev,zgg,zgh,zgi,zew,zgj,zgk,zgl,zgm,zgn,zgo,zex,zgp,zey,zez,zeA,zeB,zeC,zeD,zdv,zeE,zhf,zgq,zeF,zgr,zeG,zgs,zgt,zgu,zgv,zgw,zgx,zeH,zeI,zeJ,zgy,zgz,zeK,zgA,zeL,zeM,zgB,zgC,zhg,za8,zbM,zce,zbN,zcP,zbo,zbO,zbp,zbP,zal,zbq,zbr,zae,zbs,zbt,zbu,zcf,zbQ,za9,zbv,zbw,zaM,zba,zaU,zcz,zaz,zcg,zaq,zaV,zbR,zch,zbb,zbc,zbS,zbx,zaA,zbT,zbU,zci,zbd,zaf,zar,zas,zaa,zat,zaB,zaW,zbe,zbV,zcj,zbW,zcQ,zby,zbX,zbz,zbY,zam,zbA,zbB,zag,zbC,zbD,zbE,zck,zbZ,zbf,zbF,zbG,zaN,zbg,zaX,zcA,zaC,zcl,zau,zaY,zb0,zcm,zbh,zbi,zb1,zbH,zaD,zb2,zb3,zcn,zbj,zah,zav,zaw,zab,zax,zaE,zaZ,za0,za1,zai,zaj,zb4,zb5,zbk,zb6,zbI,zbJ,zco,zaF,zcR,za2,zaG,zan,za3,zaH,zay,zaO,zak,zaI,zaJ,zac,zaK,zaP,zbl,zb7,zdw,zdx,zcB,za4,zbm,zcS,zdy,zdz,zcC,zdA,zeN,zeO,zdB,zdC,zgD,zeP,zeQ,zgE,zeR,zeS,zgF,zgG,zgH,zgI,zgJ,zeT,zeU,zeV,zeW,zeX,zgK,zeY,zeZ,ze0,ze1,ze2,ze3,zgL,zgM,zgN,ze4,zdD,zgO,ze5,ze6,ze7,zgP,zgQ,zgR,zgS,ze8,zgT,ze9,zfa,zfb,zfc,zfd,zfe,zff,zdE,zcT,zcU,zcV,zcD,zcE,zfg,zfh,zfi,zfj,zfk,zgU,zfl,zfm,zfn,zgV,zgW,zgX,zgY,zgZ,zfo,zfp,zfq,zfr,zg0,zg1,zg2,zg3,zfs,zft,zg4,zfu,zfv,zfw,zfx,zfy,zdF,zfz,zfA,zfB,zfC,zfD,zg5,zfE,zg6,zg7,zg8,zg9,zha,zhb,zfF,zfG,zfH,zfI,zhc,zfJ,zfK,zfL,zfM,zfN,zb8,zcF,zcW,zcG,zfO,zcp,zcH,zcq,zcI,zaL,zcr,zcs,zao,zct,zcu,zcv,zcX,zcJ,zb9,zcw,zcx,zbn,zca,zbK,zdG,za5,zcY,zaQ,zbL,zcK,zcZ,zcb,zcc,zcL,zcy,za6,zcM,zcN,zc0,zcd,zap,zaR,zaS,zad,zaT,za7,F_FlowRun_go,if_true,if_false,zhh,zhi,cond_true,cond_false,List.zip,List.zipWith,List.length_cons,List.length_nil,Option.isSome_some,Bool.false_eq_true,reduceIte,reduceCtorEq,Nat.reduceEqDiff,Nat.reduceAdd,Nat.reduceLeDiff,Int.cast_ofNat_Int,decide_true,decide_false,Bool.and_true,Bool.true_and,Bool.and_false,Bool.false_and,Int.sub_zero,Int.reduceNeg,Nat.reduceLT,and_self,and_true,true_and,Bool.false_or,Bool.or_false,Bool.true_or,Bool.or_true,Bool.not_true,Bool.not_false,Int.natAbs_neg,Int.reduceSub,Int.reduceAdd,Int.reduceToNat,Int.natAbs_zero,Int.natAbs_one,Int.reduceLT,Int.reduceLE,Int.reduceGE,Int.reduceGT,decide_eq_true_eq,List.getElem?_cons_zero,List.getElem?_cons_succ,Nat.reduceSub,Int.reduceMul,Nat.reduceBEq,Nat.reducePow,Int.reducePow,and_false,false_and,eq_self,zc1,zcO _ _ zcB,IX,lim,Option.getD_some,F__law_draw1,h1,h2,u1,u2,List.length_map,b1,b2,e1,hs',Int.toNat_one,List.set]
  · have hs' : ¬ ((k : Int) < (sl.length : Int)) := by omega
    have c1 : k < 1073741824 := by omega
    intro n d
    rw [show drawF sl k below = Int.fmod (3 * (k : Int) + Int.fdiv (k : Int) 2 + 1) below by unfold drawF; rw [List.getElem?_eq_none (by omega)], ec_fn, callF_ _ _ _ f1_F__law_draw rfl rfl]
    simp only [zdH,zdI,zdJ,zdK,zdL,zdM,zdN,zdO,zdP,zdQ,zc2,zdR,zdS,zdT,zdU,zc3,zdV,zdW,zdX,zdY,zc4,zfP,zfQ,zfR,zfS,zdZ,zd0,zd1,zd2,zd3,zd4,zd5,zd6,zc5,zc6,zd7,zd8,zd9,zea,zeb,zec,zed,zc7,zc8,zee,zhd,zhe,zc9,zda,zdb,zdc,zdd,zde,zfT,zfU,zfV,zef,zeg,zdf,zdg,zdh,zdi,zeh,zei,zfW,zfX,zfY,zdj,zdk,zdl,zdm,zdn,zfZ,zej,zdo,zek,zf0,zf1,zdp,zdq,zdr,zel,zem,zen,zeo,zds,zdt,zdu,zf2,zf3,zep,zf4,zeq,zf5,zf6,zf7,zf8,zf9,zga,zer,zgb,zgc,zgd,zes,zge,zet,zeu,zgf,zev,zgg,zgh,zgi,zew,zgj,zgk,zgl,zgm,zgn,zgo,zex,zgp,zey,zez,zeA,zeB,zeC,zeD,zdv,zeE,zhf,zgq,zeF,zgr,zeG,zgs,zgt,zgu,zgv,zgw,zgx,zeH,zeI,zeJ,zgy,zgz,zeK,zgA,zeL,zeM,zgB,zgC,zhg,za8,zbM,zce,zbN,zcP,zbo,zbO,zbp,zbP,zal,zbq,zbr,zae,zbs,zbt,zbu,zcf,zbQ,za9,zbv,zbw,zaM,zba,zaU,zcz,zaz,zcg,zaq,zaV,zbR,zch,zbb,zbc,zbS,zbx,zaA,zbT,zbU,zci,zbd,zaf,zar,zas,zaa,zat,zaB,zaW,zbe,zbV,zcj,zbW,zcQ,zby,zbX,zbz,zbY,zam,zbA,zbB,zag,zbC,zbD,zbE,zck,zbZ,zbf,zbF,zbG,zaN,zbg,zaX,zcA,zaC,zcl,zau,zaY,zb0,zcm,zbh,zbi,zb1,zbH,zaD,zb2,zb3,zcn,zbj,zah,zav,zaw,zab,zax,zaE,zaZ,za0,za1,zai,zaj,zb4,zb5,zbk,zb6,zbI,zbJ,zco,zaF,zcR,za2,zaG,zan,za3,zaH,zay,zaO,zak,zaI,zaJ,zac,zaK,zaP,zbl,zb7,zdw,zdx,zcB,za4,zbm,zcS,zdy,zdz,zcC,zdA,zeN,zeO,zdB,zdC,zgD,zeP,zeQ,zgE,zeR,zeS,zgF,zgG,zgH,zgI,zgJ,zeT,zeU,zeV,zeW,zeX,zgK,zeY,zeZ,ze0,ze1,ze2,ze3,zgL,zgM,zgN,ze4,zdD,zgO,ze5,ze6,ze7,zgP,zgQ,zgR,zgS,ze8,zgT,ze9,zfa,zfb,zfc,zfd,zfe,zff,zdE,zcT,zcU,zcV,zcD,zcE,zfg,zfh,zfi,zfj,zfk,zgU,zfl,zfm,zfn,zgV,zgW,zgX,zgY,zgZ,zfo,zfp,zfq,zfr,zg0,zg1,zg2,zg3,zfs,zft,zg4,zfu,zfv,zfw,zfx,zfy,zdF,zfz,zfA,zfB,zfC,zfD,zg5,zfE,zg6,zg7,zg8,zg9,zha,zhb,zfF,zfG,zfH,zfI,zhc,zfJ,zfK,zfL,zfM,zfN,zb8,zcF,zcW,zcG,zfO,zcp,zcH,zcq,zcI,zaL,zcr,zcs,zao,zct,zcu,zcv,zcX,zcJ,zb9,zcw,zcx,zbn,zca,zbK,zdG,za5,zcY,zaQ,zbL,zcK,zcZ,zcb,zcc,zcL,zcy,za6,zcM,zcN,zc0,zcd,zap,zaR,zaS,zad,zaT,za7,F_FlowRun_go,if_true,if_false,zhh,zhi,cond_true,cond_false,List.zip,List.zipWith,List.length_cons,List.length_nil,Option.isSome_some,Bool.false_eq_true,reduceIte,reduceCtorEq,Nat.reduceEqDiff,Nat.reduceAdd,Nat.reduceLeDiff,Int.cast_ofNat_Int,decide_true,decide_false,Bool.and_true,Bool.true_and,Bool.and_false,Bool.false_and,Int.sub_zero,Int.reduceNeg,Nat.reduceLT,and_self,and_true,true_and,Bool.false_or,Bool.or_false,Bool.true_or,Bool.or_true,Bool.not_true,Bool.not_false,Int.natAbs_neg,Int.reduceSub,Int.reduceAdd,Int.reduceToNat,Int.natAbs_zero,Int.natAbs_one,Int.reduceLT,Int.reduceLE,Int.reduceGE,Int.reduceGT,decide_eq_true_eq,List.getElem?_cons_zero,List.getElem?_cons_succ,Nat.reduceSub,Int.reduceMul,Nat.reduceBEq,Nat.reducePow,Int.reducePow,and_false,false_and,eq_self,zc1,zcO _ _ zcB,IX,lim,Option.getD_some,F__law_draw1,h1,h2,u1,u2,List.length_map,b1,b2,hs',Int.toNat_one,List.set,c1,Int.reduceEq,Nat.not_le,or_false,ge_iff_le,Int.natAbs_natCast]
section
variable (H : MH) (a b c e : MO)
theorem n_n : (H.new a).next = H.next + 1 := rfl
theorem u_n (k : Nat) : (H.upd k a).next = H.next := rfl
theorem n2_0 : ((H.new a).new b).get H.next = some a := by
  rw [new_ne _ _ _ (by rw [n_n]; omega), new_eq]
theorem n2_1 : ((H.new a).new b).get (H.next + 1) = some b := new_eq (H.new a) b
theorem n3_0 : (((H.new a).new b).new c).get H.next = some a := by
  rw [new_ne _ _ _ (by rw [n_n, n_n]; omega), n2_0]
theorem n3_1 : (((H.new a).new b).new c).get (H.next + 1) = some b := n2_0 (H.new a) b c
theorem n3_2 : (((H.new a).new b).new c).get (H.next + 2) = some c := new_eq ((H.new a).new b) c
end
structure Ob (H K : MH) (c : Nat) (es : List (MV × MV)) : Prop where
  g : Grew H K
  lt : H.next + 1 < K.next
  i : K.get (H.next + 1) = some (.inst c H.next)
  e : K.get H.next = some (.dict es)
theorem ob_start (H : MH) (c : Nat) : Ob H ((H.new (.dict [])).new (.inst c H.next)) c [] :=
  ⟨((Grew.refl H).new _).new _, Nat.lt_succ_self _, n2_1 _ _ _, n2_0 _ _ _⟩
section
variable {H K K1 : MH} {c : Nat} {es : List (MV × MV)} {L : Loc}
theorem ob_step (o : Ob H K c es) (x : Nat) (e : MX) (v : MV) (hL : zhh 6230994022 L = some (.ref (H.next + 1))) (g : Grew K K1) (ok : okKey (.str x) es = true) (ha : (PgC lf1 lg1).atr c x = true) (hl : Nat.blt es.length 100 = true) :
    ∃ K2, Ob H K2 c (dPut (.str x) v es) ∧ K2.next = K1.next ∧ (∀ j, j ≠ H.next → K2.get j = K1.get j) ∧ ∀ n d r, (ev (PgC lf1 lg1) (n + 1) (d)).x e L K = some (v, K1) → stmts (ev (PgC lf1 lg1) (n + 2) (d)) (.asg (.att (.loc 6230994022) x) e :: r) L K = stmts (ev (PgC lf1 lg1) (n + 2) (d)) r L K2 := by
  have h1 := (g.get _ o.lt).trans o.i
  have h2 := (g.get _ (Nat.lt_of_succ_lt o.lt)).trans o.e
  refine ⟨K1.upd H.next (.dict (dPut (.str x) v es)), ⟨(o.g.trans g).upd _ (Nat.le_refl _), Nat.lt_of_lt_of_le o.lt g.next, (upd_ne _ _ _ _ (Nat.succ_ne_self _)).trans h1, upd_eq _ _ _⟩, rfl, fun j hj => upd_ne _ _ _ _ hj, fun n d r he => ?_⟩
  have sa : setAttr (PgC lf1 lg1) K1 (.ref (H.next + 1)) x v = some (K1.upd H.next (.dict (dPut (.str x) v es))) := by
    unfold setAttr
    rw [instA h1 h2]
    exact if_pos ⟨ha, ok, Nat.blt_eq.mp hl⟩
  simp only [zdH,zdI,zdJ,zdK,zdL,zdM,zdN,zdO,zdP,zdQ,zc2,zdR,zdS,zdT,zdU,zc3,zdV,zdW,zdX,zdY,zc4,zfP,zfQ,zfR,zfS,zdZ,zd0,zd1,zd2,zd3,zd4,zd5,zd6,zc5,zc6,zd7,zd8,zd9,zea,zeb,zec,zed,zc7,zc8,zee,zhd,zhe,zc9,zda,zdb,zdc,zdd,zde,zfT,zfU,zfV,zef,zeg,zdf,zdg,zdh,zdi,zeh,zei,zfW,zfX,zfY,zdj,zdk,zdl,zdm,zdn,zfZ,zej,zdo,zek,zf0,zf1,zdp,zdq,zdr,zel,zem,zen,zeo,zds,zdt,zdu,zf2,zf3,zep,zf4,zeq,zf5,zf6,zf7,zf8,zf9,zga,zer,zgb,zgc,zgd,zes,zge,zet,zeu,zgf,zev,zgg,zgh,zgi,zew,zgj,zgk,zgl,zgm,zgn,zgo,zex,zgp,zey,zez,zeA,zeB,zeC,zeD,zdv,zeE,zhf,zgq,zeF,zgr,zeG,zgs,zgt,zgu,zgv,zgw,zgx,zeH,zeI,zeJ,zgy,zgz,zeK,zgA,zeL,zeM,zgB,zgC,zhg,za8,zbM,zce,zbN,zcP,zbo,zbO,zbp,zbP,zal,zbq,zbr,zae,zbs,zbt,zbu,zcf,zbQ,za9,zbv,zbw,zaM,zba,zaU,zcz,zaz,zcg,zaq,zaV,zbR,zch,zbb,zbc,zbS,zbx,zaA,zbT,zbU,zci,zbd,zaf,zar,zas,zaa,zat,zaB,zaW,zbe,zbV,zcj,zbW,zcQ,zby,zbX,zbz,zbY,zam,zbA,zbB,zag,zbC,zbD,zbE,zck,zbZ,zbf,zbF,zbG,zaN,zbg,zaX,zcA,zaC,zcl,zau,zaY,zb0,zcm,zbh,zbi,zb1,zbH,zaD,zb2,zb3,zcn,zbj,zah,zav,zaw,zab,zax,zaE,zaZ,za0,za1,zai,zaj,zb4,zb5,zbk,zb6,zbI,zbJ,zco,zaF,zcR,za2,zaG,zan,za3,zaH,zay,zaO,zak,zaI,zaJ,zac,zaK,zaP,zbl,zb7,zdw,zdx,zcB,za4,zbm,zcS,zdy,zdz,zcC,zdA,zeN,zeO,zdB,zdC,zgD,zeP,zeQ,zgE,zeR,zeS,zgF,zgG,zgH,zgI,zgJ,zeT,zeU,zeV,zeW,zeX,zgK,zeY,zeZ,ze0,ze1,ze2,ze3,zgL,zgM,zgN,ze4,zdD,zgO,ze5,ze6,ze7,zgP,zgQ,zgR,zgS,ze8,zgT,ze9,zfa,zfb,zfc,zfd,zfe,zff,zdE,zcT,zcU,zcV,zcD,zcE,zfg,zfh,zfi,zfj,zfk,zgU,zfl,zfm,zfn,zgV,zgW,zgX,zgY,zgZ,zfo,zfp,zfq,zfr,zg0,zg1,zg2,zg3,zfs,zft,zg4,zfu,zfv,zfw,zfx,zfy,zdF,zfz,zfA,zfB,zfC,zfD,zg5,zfE,zg6,zg7,zg8,zg9,zha,zhb,zfF,zfG,zfH,zfI,zhc,zfJ,zfK,zfL,zfM,zfN,zb8,zcF,zcW,zcG,zfO,zcp,zcH,zcq,zcI,zaL,zcr,zcs,zao,zct,zcu,zcv,zcX,zcJ,zb9,zcw,zcx,zbn,zca,zbK,zdG,za5,zcY,zaQ,zbL,zcK,zcZ,zcb,zcc,zcL,zcy,za6,zcM,zcN,zc0,zcd,zap,zaR,zaS,zad,zaT,za7,F_FlowRun_go,if_true,if_false,zhh,zhi,cond_true,cond_false,List.zip,List.zipWith,List.length_cons,List.length_nil,Option.isSome_some,Bool.false_eq_true,reduceIte,reduceCtorEq,Nat.reduceEqDiff,Nat.reduceAdd,Nat.reduceLeDiff,Int.cast_ofNat_Int,decide_true,decide_false,Bool.and_true,Bool.true_and,Bool.and_false,Bool.false_and,Int.sub_zero,Int.reduceNeg,Nat.reduceLT,and_self,and_true,true_and,Bool.false_or,Bool.or_false,Bool.true_or,Bool.or_true,Bool.not_true,Bool.not_false,Int.natAbs_neg,Int.reduceSub,Int.reduceAdd,Int.reduceToNat,Int.natAbs_zero,Int.natAbs_one,Int.reduceLT,Int.reduceLE,Int.reduceGE,Int.reduceGT,decide_eq_true_eq,List.getElem?_cons_zero,List.getElem?_cons_succ,Nat.reduceSub,Int.reduceMul,Nat.reduceBEq,Nat.reducePow,Int.reducePow,and_false,false_and,eq_self,zc1,zcO _ _ zcB,IX,lim,Option.getD_some,F__law_draw1,he,hL,sa]
theorem ctl_new (H : MH) : ∃ K, Grew H K ∧ K.next = H.next + 3 ∧ K.get (H.next + 1) = some (.inst 91038937668284268 H.next) ∧ K.get H.next = some (ctl (H.next + 2)) ∧ K.get (H.next + 2) = some (.list []) ∧ ∀ n d, (ev (PgC lf1 lg1) (n + 80) (d + 5)).c (.cls 91038937668284268) [.int 20] H = some (.ref (H.next + 1), K) := by
  have o0 := ob_start H 91038937668284268
  obtain ⟨K1, o1, m1, p1, e1⟩ := ob_step (L := [(6230994022, .ref (H.next + 1)), (6130987892, .int 20)]) (K1 := ((H.new (.dict [])).new (.inst 91038937668284268 H.next)).new (.list [])) o0 6180924517 (.lst []) (.ref (H.next + 2)) rfl ((Grew.refl _).new _) rfl rfl rfl
  obtain ⟨K2, o2, m2, p2, e2⟩ := ob_step (L := [(6230994022, .ref (H.next + 1)), (6130987892, .int 20)]) (K1 := K1) o1 6130987892 (.loc 6130987892) (.int 20) rfl (Grew.refl _) rfl rfl rfl
  obtain ⟨K3, o3, m3, p3, e3⟩ := ob_step (L := [(6230994022, .ref (H.next + 1)), (6130987892, .int 20)]) (K1 := K2) o2 6610953639064984576372 (.neg (.cst (.int 1))) (.int (-1)) rfl (Grew.refl _) rfl rfl rfl
  have m0 : (((H.new (.dict [])).new (.inst 91038937668284268 H.next)).new (.list [])).next = H.next + 3 := rfl
  have g2 : K3.get (H.next + 2) = some (.list []) := by
    rw [p3 _ (by omega), p2 _ (by omega), p1 _ (by omega)]
    exact new_eq _ _
  refine ⟨K3, o3.g, by omega, o3.i, o3.e, g2, fun n d => ?_⟩
  rw [ec_cls _ _ zag, callF_ _ _ _ zae rfl rfl]
  show (Option.bind (stmts (ev (PgC lf1 lg1) (n + 79) (d + 4)) _ [(6230994022, .ref (H.next + 1)), (6130987892, .int 20)] _) krF).bind _ = _
  simp only [zao]
  rw [e1 (n + 77) (d + 4) _ rfl, e2 (n + 77) (d + 4) _ rfl, e3 (n + 77) (d + 4) _ rfl]
  rfl
end
noncomputable def runE (fl va h : Nat) : List (MV × MV) := [(.str 6013346164, .ref fl), (.str 411635780248947, .ref va), (.str 27052967330930716518, .fn 1659549907034316584678504), (.str 5946045555, .int 16), (.str 391878846018675, .int 9), (.str 100046136923025260, .ref (h + 3)), (.str 1573827929459, .ref (h + 5))]
theorem run_new (H : MH) (fl va : Nat) : ∃ K, Grew H K ∧ K.next = H.next + 6 ∧ K.get (H.next + 1) = some (.inst 91880068406736238 H.next) ∧ K.get H.next = some (.dict (runE fl va H.next)) ∧ K.get (H.next + 3) = some (.inst 91038937668284268 (H.next + 2)) ∧ K.get (H.next + 2) = some (ctl (H.next + 4)) ∧ K.get (H.next + 4) = some (.list []) ∧ K.get (H.next + 5) = some (.list [])
    ∧ ∀ n d, (ev (PgC lf1 lg1) (n + 180) (d + 9)).c (.cls 91880068406736238) [.ref fl, .ref va, .fn 1659549907034316584678504, .int 16, .int 9] H = some (.ref (H.next + 1), K) := by
  obtain ⟨L, hL⟩ : ∃ L : Loc, L = [(6230994022, .ref (H.next + 1)), (6013346164, .ref fl), (411635780248947, .ref va), (27052967330930716518, .fn 1659549907034316584678504), (5946045555, .int 16), (391878846018675, .int 9)] := ⟨_, rfl⟩
  have hs : zhh 6230994022 L = some (.ref (H.next + 1)) := by rw [hL]; rfl
  have o0 := ob_start H 91880068406736238
  have m0 : ((H.new (.dict [])).new (.inst 91880068406736238 H.next)).next = H.next + 2 := rfl
  obtain ⟨K1, o1, m1, p1, e1⟩ := ob_step o0 6013346164 (.loc 6013346164) (.ref fl) hs (Grew.refl _) rfl rfl rfl
  obtain ⟨K2, o2, m2, p2, e2⟩ := ob_step o1 411635780248947 (.loc 411635780248947) (.ref va) hs (Grew.refl _) rfl rfl rfl
  obtain ⟨K3, o3, m3, p3, e3⟩ := ob_step o2 27052967330930716518 (.loc 27052967330930716518) (.fn 1659549907034316584678504) hs (Grew.refl _) rfl rfl rfl
  obtain ⟨K4, o4, m4, p4, e4⟩ := ob_step o3 5946045555 (.loc 5946045555) (.int 16) hs (Grew.refl _) rfl rfl rfl
  obtain ⟨K5, o5, m5, p5, e5⟩ := ob_step o4 391878846018675 (.loc 391878846018675) (.int 9) hs (Grew.refl _) rfl rfl rfl
  have x5 : K5.next = H.next + 2 := by rw [m5, m4, m3, m2, m1]; rfl
  obtain ⟨C, gC, nC, iC, eC, pC, cC⟩ := ctl_new K5
  obtain ⟨K6, o6, m6, p6, e6⟩ := ob_step o5 100046136923025260 (.call (.glb 91038937668284268) [.cst (.int 20)]) (.ref (K5.next + 1)) hs gC rfl rfl rfl
  obtain ⟨K7, o7, m7, p7, e7⟩ := ob_step o6 1573827929459 (.lst []) (.ref K6.next) hs ((Grew.refl K6).new (.list [])) rfl rfl rfl
  have x6 : K6.next = H.next + 5 := by rw [m6, nC, x5]
  have x7 : K7.next = H.next + 6 := by rw [m7, n_n, x6]
  rw [x5] at iC eC pC
  have q : ∀ j, j ≠ H.next → j < K6.next → K7.get j = C.get j := fun j h1 h2 => by rw [p7 j h1, new_ne _ _ _ (Nat.ne_of_lt h2), p6 j h1]
  have e := o7.e
  rw [x5, x6] at e
  refine ⟨K7, o7.g, x7, o7.i, e, ?_, ?_, ?_, ?_, fun n d => ?_⟩
  · rw [q _ (by omega) (by omega)]; exact iC
  · rw [q _ (by omega) (by omega)]; exact eC
  · rw [q _ (by omega) (by omega)]; exact pC
  · rw [p7 _ (by omega), ← x6]; exact new_eq _ _
  · rw [ec_cls _ _ zah, callF_ _ _ _ zaf rfl rfl]
    show (Option.bind (stmts (ev (PgC lf1 lg1) (n + 179) (d + 8)) _ [(6230994022, .ref (H.next + 1)), (6013346164, .ref fl), (411635780248947, .ref va), (27052967330930716518, .fn 1659549907034316584678504), (5946045555, .int 16), (391878846018675, .int 9)] _) krF).bind _ = _
    rw [← hL]
    have c6 : (ev (PgC lf1 lg1) (n + 178) (d + 8)).x (.call (.glb 91038937668284268) [.cst (.int 20)]) L K5 = some (.ref (K5.next + 1), C) := cC (n + 97) (d + 3)
    simp only [zap]
    rw [e1 (n + 177) (d + 8) _ (by rw [hL]; rfl), e2 (n + 177) (d + 8) _ (by rw [hL]; rfl), e3 (n + 177) (d + 8) _ (by rw [hL]; rfl), e4 (n + 177) (d + 8) _ (by rw [hL]; rfl), e5 (n + 177) (d + 8) _ (by rw [hL]; rfl), e6 (n + 177) (d + 8) _ c6, e7 (n + 177) (d + 8) _ rfl]
    rfl
end Mn.Mg
end
section
set_option maxRecDepth 100000
namespace Mn.Mg
noncomputable def HI (ns : List Int) : MH := ⟨1, fun k => if k = 0 then some (.frz (ns.map .int)) else none⟩
noncomputable def HS1 (ns : List Int) : MH := ((HI ns).new (.list ((ns.take 9).map .int))).new (.list [.ref 1, .int 0])
noncomputable def HB1 (ns : List Int) (k : Int) : MH := (HS1 ns).upd 2 (.list [.ref 1, .int k])
noncomputable def LP1 (r m l st : Int) : Loc := [(23224679, .ref 2), (407298013815923, .int r), (6130987621, .int m), (1565068981108, .int l), (408418949620837, .int st)]
noncomputable def isRet : Option (Out × Loc × MH) → Option (MV × MH)
  | some (.ret v, _, H) => some (v, H)
  | _ => none
noncomputable def rP (ns : List Int) (r m l st : Int) : Option (MV × MH) := (stmts (ev (PgC lf1 lg1) 1997 49) (F__law_program1.body.drop 2) (LP1 r m l st) (HB1 ns 4)).bind krF
noncomputable def HP (ns : List Int) (r m l st : Int) : MH := match rP ns r m l st with
  | some (_, H) => H
  | none => HI ns
theorem rP_eq (ns : List Int) (r m l st : Int) : rP ns r m l st = some (.ref 17, HP ns r m l st) := by kernel_rfl
noncomputable def set1 (k : Nat) (v : Int) : MV := .tup [.str k, .int v]
noncomputable def rows1 (r m l st : Int) : List (Int × Row) := [(10, .for_ r), (10, .sub), (10, .next 3), (20, .whl l), (20, .let_ st), (20, .rem 1612364475493), (20, .wend), (30, .ifn 10), (30, .rem 24077412), (30, .jump 11), (30, .rem 5997225326), (30, .ong 9), (30, .end_), (40, .let_ m), (40, .rem 5962296428), (40, .ret), (50, .let_ (-1)), (50, .rem 1539366614137), (60, .rem 1595202368633), (60, .end_)]
noncomputable def F1 (r m l st : Int) : Fl := ⟨rows1 r m l st⟩
noncomputable def flatE : List (MV × MV) := [(.str 6214874995, .ref 18), (.str 405085769393523, .ref 19), (.str 5979075681, .ref 20), (.str 1582182265459, .ref 21), (.str 1565237670003, .ref 22), (.str 23490163, .ref 23)]
structure FF (F : Fl) (K : MH) : Prop where
  nx : 27 ≤ K.next
  h17 : K.get 17 = some (.inst 5476475252 16)
  h16 : K.get 16 = some (.dict flatE)
  h18 : K.get 18 = some (.list F.mv)
  h19 : K.get 19 = some (.dict plD)
  h21 : K.get 21 = some (.dict qaD)
  h3 : K.get 3 = some (.list [.str 329])
  h9 : K.get 9 = some (.list [.int 60, .int 50, .int 60])
theorem hp_n (ns : List Int) (r m l st : Int) : (HP ns r m l st).next = 27 := by kernel_rfl
theorem hp_17 (ns : List Int) (r m l st : Int) : (HP ns r m l st).get 17 = some (.inst 5476475252 16) := by kernel_rfl
theorem hp_16 (ns : List Int) (r m l st : Int) : (HP ns r m l st).get 16 = some (.dict flatE) := by kernel_rfl
theorem hp_18 (ns : List Int) (r m l st : Int) : (HP ns r m l st).get 18 = some (.list (F1 r m l st).mv) := by kernel_rfl
theorem hp_19 (ns : List Int) (r m l st : Int) : (HP ns r m l st).get 19 = some (.dict plD) := by kernel_rfl
theorem hp_21 (ns : List Int) (r m l st : Int) : (HP ns r m l st).get 21 = some (.dict qaD) := by kernel_rfl
theorem hp_3 (ns : List Int) (r m l st : Int) : (HP ns r m l st).get 3 = some (.list [.str 329]) := by kernel_rfl
theorem hp_9 (ns : List Int) (r m l st : Int) : (HP ns r m l st).get 9 = some (.list [.int 60, .int 50, .int 60]) := by kernel_rfl
theorem hp_1 (ns : List Int) (r m l st : Int) : (HP ns r m l st).get 1 = some (.list ((ns.take 9).map .int)) := by kernel_rfl
theorem hp_2 (ns : List Int) (r m l st : Int) : (HP ns r m l st).get 2 = some (.list [.ref 1, .int 4]) := by kernel_rfl
theorem upd_same (H : MH) (k : Nat) (o : MO) (h : H.get k = some o) : H.upd k o = H := by
  cases H with | mk nx gt =>
  unfold MH.upd
  congr 1
  funext j
  dsimp only at h ⊢
  split
  · rename_i q; rw [q, h]
  · rfl
noncomputable def drw (ns : List Int) (k : Nat) (b : Int) : Int := drawF (ns.take 9) k b
theorem dr1 (ns : List Int) (below : Int) (hb : 0 < below) (k : Nat) (hk : k < 100) : ∀ n d : Nat, (ev (PgC lf1 lg1) (n + 30) (d + 2)).c (.fn 6482616824352480584055) [.ref 2, .int below] (HB1 ns (k : Int)) = some (.int (drw ns k below), HB1 ns ((k + 1 : Nat) : Int)) := by
  intro n d
  have hl : (ns.take 9).length < 100 := by rw [List.length_take]; omega
  have q := draw_ok (ns.take 9) k below hb (by omega) (HB1 ns (k : Int)) 2 1 (by decide) rfl rfl hl n d
  rw [show (HB1 ns (k : Int)).upd 2 (.list [.ref 1, .int ((k : Int) + 1)]) = HB1 ns ((k + 1 : Nat) : Int) from upd_upd _ _ _ _] at q
  exact q
theorem prog_ok (ns : List Int) : (ev (PgC lf1 lg1) 1998 50).c (.fn 108760262707399004654086021485) [.ref 2] (HS1 ns) = some (.ref 17, HP ns (1 + drw ns 0 2) (1 + drw ns 1 2) (4 + drw ns 2 3) (2 + drw ns 3 2)) := by
  have h0 : HB1 ns ((0 : Nat) : Int) = HS1 ns := upd_same _ _ _ rfl
  have e0 := dr1 ns 2 (by decide) 0 (by decide)
  rw [h0] at e0
  have e1 := dr1 ns 2 (by decide) 1 (by decide)
  have e2 := dr1 ns 3 (by decide) 2 (by decide)
  have e3 := dr1 ns 2 (by decide) 3 (by decide)
  have pre : ∀ n d : Nat, ∀ r2, stmts (ev (PgC lf1 lg1) (n + 100) (d + 4)) (F__law_program1.body.take 2 ++ r2) [(23224679, .ref 2)] (HS1 ns) = stmts (ev (PgC lf1 lg1) (n + 100) (d + 4)) r2 (LP1 (1 + drw ns 0 2) (1 + drw ns 1 2) (4 + drw ns 2 3) (2 + drw ns 3 2)) (HB1 ns 4) := by
    intro n d r2
    have f0 : ∀ n d : Nat, (ev (PgC lf1 lg1) (n + 30) (d + 2)).c (.fn 6482616824352480584055) [.ref 2, .int 2] (HS1 ns) = some (.int (drw ns 0 2), HB1 ns 1) := e0
    have f1 : ∀ n d : Nat, (ev (PgC lf1 lg1) (n + 30) (d + 2)).c (.fn 6482616824352480584055) [.ref 2, .int 2] (HB1 ns 1) = some (.int (drw ns 1 2), HB1 ns 2) := e1
    have f2 : ∀ n d : Nat, (ev (PgC lf1 lg1) (n + 30) (d + 2)).c (.fn 6482616824352480584055) [.ref 2, .int 3] (HB1 ns 2) = some (.int (drw ns 2 3), HB1 ns 3) := e2
    have f3 : ∀ n d : Nat, (ev (PgC lf1 lg1) (n + 30) (d + 2)).c (.fn 6482616824352480584055) [.ref 2, .int 2] (HB1 ns 3) = some (.int (drw ns 3 2), HB1 ns 4) := e3
    simp only [F__law_program1, List.take, List.cons_append, List.nil_append, LP1]
    simp only [zdH,zdI,zdJ,zdK,zdL,zdM,zdN,zdO,zdP,zdQ,zc2,zdR,zdS,zdT,zdU,zc3,zdV,zdW,zdX,zdY,zc4,zfP,zfQ,zfR,zfS,zdZ,zd0,zd1,zd2,zd3,zd4,zd5,zd6,zc5,zc6,zd7,zd8,zd9,zea,zeb,zec,zed,zc7,zc8,zee,zhd,zhe,zc9,zda,zdb,zdc,zdd,zde,zfT,zfU,zfV,zef,zeg,zdf,zdg,zdh,zdi,zeh,zei,zfW,zfX,zfY,zdj,zdk,zdl,zdm,zdn,zfZ,zej,zdo,zek,zf0,zf1,zdp,zdq,zdr,zel,zem,zen,zeo,zds,zdt,zdu,zf2,zf3,zep,zf4,zeq,zf5,zf6,zf7,zf8,zf9,zga,zer,zgb,zgc,zgd,zes,zge,zet,zeu,zgf,zev,zgg,zgh,zgi,zew,zgj,zgk,zgl,zgm,zgn,zgo,zex,zgp,zey,zez,zeA,zeB,zeC,zeD,zdv,zeE,zhf,zgq,zeF,zgr,zeG,zgs,zgt,zgu,zgv,zgw,zgx,zeH,zeI,zeJ,zgy,zgz,zeK,zgA,zeL,zeM,zgB,zgC,zhg,za8,zbM,zce,zbN,zcP,zbo,zbO,zbp,zbP,zal,zbq,zbr,zae,zbs,zbt,zbu,zcf,zbQ,za9,zbv,zbw,zaM,zba,zaU,zcz,zaz,zcg,zaq,zaV,zbR,zch,zbb,zbc,zbS,zbx,zaA,zbT,zbU,zci,zbd,zaf,zar,zas,zaa,zat,zaB,zaW,zbe,zbV,zcj,zbW,zcQ,zby,zbX,zbz,zbY,zam,zbA,zbB,zag,zbC,zbD,zbE,zck,zbZ,zbf,zbF,zbG,zaN,zbg,zaX,zcA,zaC,zcl,zau,zaY,zb0,zcm,zbh,zbi,zb1,zbH,zaD,zb2,zb3,zcn,zbj,zah,zav,zaw,zab,zax,zaE,zaZ,za0,za1,zai,zaj,zb4,zb5,zbk,zb6,zbI,zbJ,zco,zaF,zcR,za2,zaG,zan,za3,zaH,zay,zaO,zak,zaI,zaJ,zac,zaK,zaP,zbl,zb7,zdw,zdx,zcB,za4,zbm,zcS,zdy,zdz,zcC,zdA,zeN,zeO,zdB,zdC,zgD,zeP,zeQ,zgE,zeR,zeS,zgF,zgG,zgH,zgI,zgJ,zeT,zeU,zeV,zeW,zeX,zgK,zeY,zeZ,ze0,ze1,ze2,ze3,zgL,zgM,zgN,ze4,zdD,zgO,ze5,ze6,ze7,zgP,zgQ,zgR,zgS,ze8,zgT,ze9,zfa,zfb,zfc,zfd,zfe,zff,zdE,zcT,zcU,zcV,zcD,zcE,zfg,zfh,zfi,zfj,zfk,zgU,zfl,zfm,zfn,zgV,zgW,zgX,zgY,zgZ,zfo,zfp,zfq,zfr,zg0,zg1,zg2,zg3,zfs,zft,zg4,zfu,zfv,zfw,zfx,zfy,zdF,zfz,zfA,zfB,zfC,zfD,zg5,zfE,zg6,zg7,zg8,zg9,zha,zhb,zfF,zfG,zfH,zfI,zhc,zfJ,zfK,zfL,zfM,zfN,zb8,zcF,zcW,zcG,zfO,zcp,zcH,zcq,zcI,zaL,zcr,zcs,zao,zct,zcu,zcv,zcX,zcJ,zb9,zcw,zcx,zbn,zca,zbK,zdG,za5,zcY,zaQ,zbL,zcK,zcZ,zcb,zcc,zcL,zcy,za6,zcM,zcN,zc0,zcd,zap,zaR,zaS,zad,zaT,za7,F_FlowRun_go,if_true,if_false,zhh,zhi,cond_true,cond_false,List.zip,List.zipWith,List.length_cons,List.length_nil,Option.isSome_some,Bool.false_eq_true,reduceIte,reduceCtorEq,Nat.reduceEqDiff,Nat.reduceAdd,Nat.reduceLeDiff,Int.cast_ofNat_Int,decide_true,decide_false,Bool.and_true,Bool.true_and,Bool.and_false,Bool.false_and,Int.sub_zero,Int.reduceNeg,Nat.reduceLT,and_self,and_true,true_and,Bool.false_or,Bool.or_false,Bool.true_or,Bool.or_true,Bool.not_true,Bool.not_false,Int.natAbs_neg,Int.reduceSub,Int.reduceAdd,Int.reduceToNat,Int.natAbs_zero,Int.natAbs_one,Int.reduceLT,Int.reduceLE,Int.reduceGE,Int.reduceGT,decide_eq_true_eq,List.getElem?_cons_zero,List.getElem?_cons_succ,Nat.reduceSub,Int.reduceMul,Nat.reduceBEq,Nat.reducePow,Int.reducePow,and_false,false_and,eq_self,zc1,zcO _ _ zcB,IX,lim,F__law_program1,g1_F__law_draw,f1_F__law_draw,f0,f1,f2,f3]
  show callF (PgC lf1 lg1) (ev (PgC lf1 lg1) 1997 49) 108760262707399004654086021485 [.ref 2] (HS1 ns) = _
  rw [callF_ _ _ _ f1_F__law_program rfl rfl]
  show (stmts (ev (PgC lf1 lg1) 1997 49) F__law_program1.body [(23224679, .ref 2)] (HS1 ns)).bind krF = _
  rw [← List.take_append_drop 2 F__law_program1.body, show stmts (ev (PgC lf1 lg1) 1997 49) (F__law_program1.body.take 2 ++ F__law_program1.body.drop 2) [(23224679, .ref 2)] (HS1 ns) = _ from pre 1897 45 (F__law_program1.body.drop 2)]
  exact rP_eq ns _ _ _ _
end Mn.Mg
end
section
set_option maxRecDepth 100000
namespace Mn.Mg
structure Kps (H H' : MH) : Prop where
  next : H.next ≤ H'.next
  get : ∀ k o, k < H.next → H.get k = some o → H'.get k = some o
theorem Kps.trans {H1 H2 H3 : MH} (x : Kps H1 H2) (y : Kps H2 H3) : Kps H1 H3 := ⟨Nat.le_trans x.next y.next, fun k o h e => y.get k o (Nat.lt_of_lt_of_le h x.next) (x.get k o h e)⟩
theorem Grew.kps {H H' : MH} (g : Grew H H') : Kps H H' := ⟨g.next, fun k o h e => (g.get k h).trans e⟩
noncomputable def full (K : MH) (A : RA) (p : Nat) : Fz := fun k => if k < K.next ∧ ¬ (k = A.va ∨ k = A.na ∨ k = A.cd ∨ k = p) then K.get k else none
section
variable {G : Fz} {A : RA} {F : Fl} {p : Nat} {s : RS} {H K K' : MH}
theorem full_at {k : Nat} (h1 : k < K.next) (h2 : ¬ (k = A.va ∨ k = A.na ∨ k = A.cd ∨ k = p)) : full K A p k = K.get k := if_pos ⟨h1, h2⟩
theorem full_no {k : Nat} (h2 : k = A.va ∨ k = A.na ∨ k = A.cd ∨ k = p) : full K A p k = none := if_neg fun q => q.2 h2
theorem full_ge {k : Nat} (h : K.next ≤ k) : full K A p k = none := if_neg fun q => Nat.lt_irrefl _ (Nat.lt_of_lt_of_le q.1 h)
theorem full_inv {k : Nat} {o : MO} (e : full K A p k = some o) : K.get k = some o := gd e fun _ e => e
theorem Row.ok_mono {G G' : Fz} {r : Row} (h : r.ok G) (hg : ∀ k o, G k = some o → G' k = some o) : r.ok G' := by
  cases r with
  | next k => exact hg _ _ h
  | ong k => exact hg _ _ h
  | for_ r => exact h
  | _ => trivial
theorem RFix.mono {G' : Fz} (f : RFix G A F) (hg : ∀ k o, G k = some o → G' k = some o) : RFix G' A F :=
  ⟨hg _ _ f.r, hg _ _ f.rd, hg _ _ f.co, hg _ _ f.fl, hg _ _ f.fd, hg _ _ f.ra, hg _ _ f.pa, hg _ _ f.qa, fun p hp => Row.ok_mono (f.ok p hp) hg, f.len⟩
noncomputable def Rn (K : MH) (A : RA) (F : Fl) (s : RS) : Prop := ∃ G p, St G A p s K ∧ RFix G A F ∧ G 2 = none ∧ 2 ≠ A.va ∧ 2 ≠ A.na ∧ 2 ≠ A.cd ∧ 2 ≠ p
theorem re_ (h : St G A p s K) (f : RFix G A F) (hn : K.next ≤ K'.next) (hva : K'.get A.va = K.get A.va) (hna : K'.get A.na = K.get A.na) (hcd : K'.get A.cd = K.get A.cd) (hp : K'.get p = K.get p) (hG : ∀ k o, G k = some o → K'.get k = some o) :
    St (full K' A p) A p s K' ∧ RFix (full K' A p) A F := by
  have key : ∀ k o, G k = some o → full K' A p k = some o := fun k o e => (full_at (Nat.lt_of_lt_of_le (h.ltG e) hn) (by
    rintro (rfl | rfl | rfl | rfl)
    · rw [h.gva] at e; cases e
    · rw [h.gna] at e; cases e
    · rw [h.gcd] at e; cases e
    · rw [h.gp] at e; cases e)).trans (hG k o e)
  exact ⟨⟨fun k o e => full_inv e, fun k hk => full_ge hk, hva.trans h.va, hna.trans h.na, hcd.trans h.cd, hp.trans h.pi, full_no (.inl rfl), full_no (.inr (.inl rfl)), full_no (.inr (.inr (.inl rfl))), full_no (.inr (.inr (.inr rfl))), h.n2, h.hi, h.ln, Nat.lt_of_lt_of_le h.bva hn, Nat.lt_of_lt_of_le h.bna hn, Nat.lt_of_lt_of_le h.bcd hn, Nat.lt_of_lt_of_le h.bp hn⟩, f.mono key⟩
end
section
variable {F : Fl} {H K : MH}
theorem FF.keep (h : FF F H) (g : Kps H K) : FF F K := by
  have n := h.nx
  exact ⟨Nat.le_trans n g.next, g.get _ _ (by omega) h.h17, g.get _ _ (by omega) h.h16, g.get _ _ (by omega) h.h18, g.get _ _ (by omega) h.h19, g.get _ _ (by omega) h.h21, g.get _ _ (by omega) h.h3, g.get _ _ (by omega) h.h9⟩
noncomputable def s0 : RS := ⟨0, none, .e, []⟩
theorem mk_run (h : FF F H) (hok : ∀ (G : Fz), G 3 = some (.list [.str 329]) → G 9 = some (.list [.int 60, .int 50, .int 60]) → ∀ p ∈ F.rows, p.2.ok G) (hlen : F.rows.length < 1000) : ∃ K A p, Kps H K ∧ St (full K A p) A p s0 K ∧ RFix (full K A p) A F ∧ A.fl = 17 ∧ (H.next ≤ A.va ∧ H.next ≤ A.na ∧ H.next ≤ A.cd ∧ H.next ≤ p) ∧
    ∀ (n d : Nat) (L : Loc), zhh 6013346164 L = some (.ref 17) → (ev (PgC lf1 lg1) (n + 200) (d + 9)).x (.call (.glb 91880068406736238) [.loc 6013346164, .call (.glb 5979595636) [.lst [.tup [.cst (.str 344), .cst (.int 0)]]], .glb 1659549907034316584678504, .cst (.int 16), .cst (.int 9)]) L H = some (.ref A.r, K) := by
  have nx := h.nx
  obtain ⟨K2, hK2⟩ : ∃ K2, (H.new (.list [.tup [.str 344, .int 0]])).new (.dict [(.str 344, .int 0)]) = K2 := ⟨_, rfl⟩
  have g2 : Grew H K2 := hK2 ▸ ((Grew.refl H).new _).new _
  have x2 : K2.next = H.next + 2 := hK2 ▸ rfl
  have v2 : K2.get (H.next + 1) = some (valD 0 none) := hK2 ▸ n2_1 _ _ _
  obtain ⟨K3, g3, x3, i3, r3, c3, t3, p3, a3, n3⟩ := run_new K2 17 (H.next + 1)
  have g13 := g2.trans g3
  have q : ∀ k o, k < 27 → H.get k = some o → full K3 { r := K2.next + 1, rd := K2.next, fl := 17, fd := 16, ra := 18, pa := 19, da := 20, qa := 21, la := 22, fa := 23, va := H.next + 1, co := K2.next + 3, cd := K2.next + 2, na := K2.next + 5 } (K2.next + 4) k = some o := fun k o hk e =>
    (full_at (by omega) (by show ¬ (k = H.next + 1 ∨ k = K2.next + 5 ∨ k = K2.next + 2 ∨ k = K2.next + 4); omega)).trans ((g13.get k (by omega)).trans e)
  have q' : ∀ k, k < K3.next → ¬ (k = H.next + 1 ∨ k = K2.next + 5 ∨ k = K2.next + 2 ∨ k = K2.next + 4) → full K3 { r := K2.next + 1, rd := K2.next, fl := 17, fd := 16, ra := 18, pa := 19, da := 20, qa := 21, la := 22, fa := 23, va := H.next + 1, co := K2.next + 3, cd := K2.next + 2, na := K2.next + 5 } (K2.next + 4) k = K3.get k := fun k h1 h2 => full_at h1 h2
  refine ⟨K3, { r := K2.next + 1, rd := K2.next, fl := 17, fd := 16, ra := 18, pa := 19, da := 20, qa := 21, la := 22, fa := 23, va := H.next + 1, co := K2.next + 3, cd := K2.next + 2, na := K2.next + 5 }, K2.next + 4, g13.kps, ?_, ?_, rfl, ⟨Nat.le_succ _, (by omega : H.next ≤ K2.next + 5), (by omega : H.next ≤ K2.next + 2), by omega⟩, fun n d L hL => ?_⟩
  · refine ⟨fun j o e => full_inv e, fun k hk => full_ge hk, (g3.get (H.next + 1) (by omega)).trans v2, a3, t3, p3, full_no (.inl rfl), full_no (.inr (.inl rfl)), full_no (.inr (.inr (.inl rfl))), full_no (.inr (.inr (.inr rfl))), by show K2.next + 5 ≠ K2.next + 4; omega, (fun i e => nomatch e), (by decide : 0 < 1000), (by omega : H.next + 1 < K3.next), (by omega : K2.next + 5 < K3.next), (by omega : K2.next + 2 < K3.next), by omega⟩
  · exact ⟨(q' (K2.next + 1) (by omega) (by omega)).trans i3, (q' K2.next (by omega) (by omega)).trans r3, (q' (K2.next + 3) (by omega) (by omega)).trans c3, q 17 _ (by decide) h.h17, q 16 _ (by decide) h.h16, q 18 _ (by decide) h.h18, q 19 _ (by decide) h.h19, q 21 _ (by decide) h.h21, hok _ (q 3 _ (by decide) h.h3) (q 9 _ (by decide) h.h9), hlen⟩
  · have n3 := n3 (n + 19) d
    have hdict : callB .dict [.ref H.next] (H.new (.list [.tup [.str 344, .int 0]])) = some (.ref (H.next + 1), K2) := by
      show ((H.new (.list [.tup [.str 344, .int 0]])).get H.next).bind _ = _
      rw [new_eq, ← hK2]
      rfl
    have ok : okFn (PgC lf1 lg1) (.cls 91880068406736238) = true := rfl
    simp only [zdH,zdI,zdJ,zdK,zdL,zdM,zdN,zdO,zdP,zdQ,zc2,zdR,zdS,zdT,zdU,zc3,zdV,zdW,zdX,zdY,zc4,zfP,zfQ,zfR,zfS,zdZ,zd0,zd1,zd2,zd3,zd4,zd5,zd6,zc5,zc6,zd7,zd8,zd9,zea,zeb,zec,zed,zc7,zc8,zee,zhd,zhe,zc9,zda,zdb,zdc,zdd,zde,zfT,zfU,zfV,zef,zeg,zdf,zdg,zdh,zdi,zeh,zei,zfW,zfX,zfY,zdj,zdk,zdl,zdm,zdn,zfZ,zej,zdo,zek,zf0,zf1,zdp,zdq,zdr,zel,zem,zen,zeo,zds,zdt,zdu,zf2,zf3,zep,zf4,zeq,zf5,zf6,zf7,zf8,zf9,zga,zer,zgb,zgc,zgd,zes,zge,zet,zeu,zgf,zev,zgg,zgh,zgi,zew,zgj,zgk,zgl,zgm,zgn,zgo,zex,zgp,zey,zez,zeA,zeB,zeC,zeD,zdv,zeE,zhf,zgq,zeF,zgr,zeG,zgs,zgt,zgu,zgv,zgw,zgx,zeH,zeI,zeJ,zgy,zgz,zeK,zgA,zeL,zeM,zgB,zgC,zhg,za8,zbM,zce,zbN,zcP,zbo,zbO,zbp,zbP,zal,zbq,zbr,zae,zbs,zbt,zbu,zcf,zbQ,za9,zbv,zbw,zaM,zba,zaU,zcz,zaz,zcg,zaq,zaV,zbR,zch,zbb,zbc,zbS,zbx,zaA,zbT,zbU,zci,zbd,zaf,zar,zas,zaa,zat,zaB,zaW,zbe,zbV,zcj,zbW,zcQ,zby,zbX,zbz,zbY,zam,zbA,zbB,zag,zbC,zbD,zbE,zck,zbZ,zbf,zbF,zbG,zaN,zbg,zaX,zcA,zaC,zcl,zau,zaY,zb0,zcm,zbh,zbi,zb1,zbH,zaD,zb2,zb3,zcn,zbj,zah,zav,zaw,zab,zax,zaE,zaZ,za0,za1,zai,zaj,zb4,zb5,zbk,zb6,zbI,zbJ,zco,zaF,zcR,za2,zaG,zan,za3,zaH,zay,zaO,zak,zaI,zaJ,zac,zaK,zaP,zbl,zb7,zdw,zdx,zcB,za4,zbm,zcS,zdy,zdz,zcC,zdA,zeN,zeO,zdB,zdC,zgD,zeP,zeQ,zgE,zeR,zeS,zgF,zgG,zgH,zgI,zgJ,zeT,zeU,zeV,zeW,zeX,zgK,zeY,zeZ,ze0,ze1,ze2,ze3,zgL,zgM,zgN,ze4,zdD,zgO,ze5,ze6,ze7,zgP,zgQ,zgR,zgS,ze8,zgT,ze9,zfa,zfb,zfc,zfd,zfe,zff,zdE,zcT,zcU,zcV,zcD,zcE,zfg,zfh,zfi,zfj,zfk,zgU,zfl,zfm,zfn,zgV,zgW,zgX,zgY,zgZ,zfo,zfp,zfq,zfr,zg0,zg1,zg2,zg3,zfs,zft,zg4,zfu,zfv,zfw,zfx,zfy,zdF,zfz,zfA,zfB,zfC,zfD,zg5,zfE,zg6,zg7,zg8,zg9,zha,zhb,zfF,zfG,zfH,zfI,zhc,zfJ,zfK,zfL,zfM,zfN,zb8,zcF,zcW,zcG,zfO,zcp,zcH,zcq,zcI,zaL,zcr,zcs,zao,zct,zcu,zcv,zcX,zcJ,zb9,zcw,zcx,zbn,zca,zbK,zdG,za5,zcY,zaQ,zbL,zcK,zcZ,zcb,zcc,zcL,zcy,za6,zcM,zcN,zc0,zcd,zap,zaR,zaS,zad,zaT,za7,F_FlowRun_go,if_true,if_false,zhh,zhi,cond_true,cond_false,List.zip,List.zipWith,List.length_cons,List.length_nil,Option.isSome_some,Bool.false_eq_true,reduceIte,reduceCtorEq,Nat.reduceEqDiff,Nat.reduceAdd,Nat.reduceLeDiff,Int.cast_ofNat_Int,decide_true,decide_false,Bool.and_true,Bool.true_and,Bool.and_false,Bool.false_and,Int.sub_zero,Int.reduceNeg,Nat.reduceLT,and_self,and_true,true_and,Bool.false_or,Bool.or_false,Bool.true_or,Bool.or_true,Bool.not_true,Bool.not_false,Int.natAbs_neg,Int.reduceSub,Int.reduceAdd,Int.reduceToNat,Int.natAbs_zero,Int.natAbs_one,Int.reduceLT,Int.reduceLE,Int.reduceGE,Int.reduceGT,decide_eq_true_eq,List.getElem?_cons_zero,List.getElem?_cons_succ,Nat.reduceSub,Int.reduceMul,Nat.reduceBEq,Nat.reducePow,Int.reducePow,and_false,false_and,eq_self,zc1,zcO _ _ zcB,IX,lim,hL,ok,hdict,g1_F__law_worth,n3]
end
end Mn.Mg
end
section
set_option maxRecDepth 100000
namespace Mn.Mg
noncomputable def SP (F : Fl) (A : RA) (s : RS) (p : Nat) (K : MH) : Prop := St (full K A p) A p s K ∧ RFix (full K A p) A F ∧ 27 ≤ A.va ∧ 27 ≤ A.na ∧ 27 ≤ A.cd ∧ 27 ≤ p
noncomputable def SI (F : Fl) (A : RA) (s : RS) (K : MH) : Prop := ∃ p, SP F A s p K
noncomputable def off (G : Fz) : Fz := fun k => if k = 2 then none else G k
section
variable {G : Fz} {A : RA} {F : Fl} {p : Nat} {s : RS} {H K K' : MH} {ns : List Int} {kb : Nat}
theorem SP.kps (h : SP F A s p K) (g : Kps K K') : SP F A s p K' := by
  obtain ⟨h, f, b⟩ := h
  have u : ∀ {k o}, K.get k = some o → k < K.next → K'.get k = K.get k := fun e l => (g.get _ _ l e).trans e.symm
  obtain ⟨h', f'⟩ := re_ h f g.next (u h.va h.bva) (u h.na h.bna) (u h.cd h.bcd) (u h.pi h.bp) fun k o e => g.get k o (h.ltG e) (full_inv e)
  exact ⟨h', f', b⟩
theorem SI.kps (h : SI F A s K) (g : Kps K K') : SI F A s K' := let ⟨p, h⟩ := h; ⟨p, h.kps g⟩
theorem off_ne {k : Nat} (h : k ≠ 2) : off G k = G k := if_neg h
theorem off_no {k : Nat} (h : G k = none) : off G k = none := by
  unfold off
  split
  · rfl
  · exact h
theorem off_inv {k : Nat} {o : MO} (e : off G k = some o) : k ≠ 2 ∧ G k = some o := by
  by_cases h : k = 2
  · rw [show off G k = none from if_pos h] at e; cases e
  · rw [off_ne h] at e; exact ⟨h, e⟩
theorem Row.ok_off {j : Int} {G' : Fz} {r : Row} (h : r.ok G) (hg : ∀ k o, G k = some o → o ≠ .list [.ref 1, .int j] → G' k = some o) : r.ok G' := by
  cases r with
  | next k => exact hg _ _ h nofun
  | ong k => exact hg _ _ h nofun
  | for_ r => exact h
  | _ => trivial
theorem RFix.off {j : Int} (f : RFix G A F) (h2 : G 2 = some (.list [.ref 1, .int j])) : RFix (off G) A F := by
  have q : ∀ k o, G k = some o → o ≠ .list [.ref 1, .int j] → Mg.off G k = some o := fun k o e hne => (off_ne fun hk => by rw [hk, h2] at e; exact hne (Option.some.inj e).symm).trans e
  refine ⟨q _ _ f.r nofun, q _ _ f.rd nofun, q _ _ f.co nofun, q _ _ f.fl nofun, q _ _ f.fd nofun, q _ _ f.ra fun e => ?_, q _ _ f.pa nofun, q _ _ f.qa nofun, fun p hp => Row.ok_off (f.ok p hp) q, f.len⟩
  injection e with e
  unfold Fl.mv at e
  cases hr : F.rows with
  | nil => rw [hr] at e; cases e
  | cons x r => rw [hr] at e; cases (List.cons.inj e).1
theorem SI.bag (h : SI F A s K) {j : Int} (b2 : K.get 2 = some (.list [.ref 1, .int j])) (hx : 27 ≤ K.next) (o : MO) : SI F A s (K.upd 2 o) := by
  obtain ⟨p, h, f, b⟩ := h
  have e2 : full K A p 2 = some (.list [.ref 1, .int j]) := (full_at (by omega) (by omega)).trans b2
  have f' := f.off e2
  have h' : St (off (full K A p)) A p s K := ⟨fun k o e => h.ext k o (off_inv e).2, fun k hk => off_no (h.gnew k hk), h.va, h.na, h.cd, h.pi, off_no h.gva, off_no h.gna, off_no h.gcd, off_no h.gp, h.n2, h.hi, h.ln, h.bva, h.bna, h.bcd, h.bp⟩
  obtain ⟨h2, f2⟩ := re_ (K' := K.upd 2 o) h' f' (Nat.le_refl _) (upd_ne _ _ _ _ (by omega)) (upd_ne _ _ _ _ (by omega)) (upd_ne _ _ _ _ (by omega)) (upd_ne _ _ _ _ (by omega)) fun k u e => (upd_ne _ _ _ _ (off_inv e).1).trans (h.ext k u (off_inv e).2)
  exact ⟨p, h2, f2, b⟩
theorem FF.lo (h : FF F K) (n : 27 ≤ K'.next) (g : ∀ k o, k < 27 → K.get k = some o → k ≠ 2 → K'.get k = some o) : FF F K' :=
  ⟨n, g _ _ (by decide) h.h17 (by decide), g _ _ (by decide) h.h16 (by decide), g _ _ (by decide) h.h18 (by decide), g _ _ (by decide) h.h19 (by decide), g _ _ (by decide) h.h21 (by decide), g _ _ (by decide) h.h3 (by decide), g _ _ (by decide) h.h9 (by decide)⟩
structure BI (ns : List Int) (F : Fl) (A : RA) (s : RS) (kb : Nat) (K : MH) : Prop where
  ff : FF F K
  si : SI F A s K
  b1 : K.get 1 = some (.list ((ns.take 9).map .int))
  b2 : K.get 2 = some (.list [.ref 1, .int (kb : Int)])
  dn : ∀ k, k < 27 → ∃ o, K.get k = some o
theorem BI.kps (h : BI ns F A s kb K) (g : Kps K K') : BI ns F A s kb K' := by
  have nx := h.ff.nx
  exact ⟨h.ff.keep g, h.si.kps g, g.get _ _ (by omega) h.b1, g.get _ _ (by omega) h.b2, fun k hk => let ⟨o, e⟩ := h.dn k hk; ⟨o, g.get _ _ (by omega) e⟩⟩
theorem BI.draw (h : BI ns F A s kb K) : BI ns F A s (kb + 1) (K.upd 2 (.list [.ref 1, .int ((kb : Int) + 1)])) :=
  ⟨h.ff.lo h.ff.nx fun k o _ e hk => (upd_ne _ _ _ _ hk).trans e, h.si.bag h.b2 h.ff.nx _, (upd_ne _ _ _ _ (by decide)).trans h.b1, upd_eq _ _ _, fun k hk => by
    by_cases q : k = 2
    · exact ⟨_, by rw [q]; exact upd_eq _ _ _⟩
    · rw [upd_ne _ _ _ _ q]; exact h.dn k hk⟩
theorem BI.row (h : BI ns F A s kb K) (at_ : Nat) (hat : at_ < F.rows.length) {a' : Nat} {s' : RS} (q : stepF F (at_, s) = some (a', s')) :
    ∃ K', BI ns F A s' kb K' ∧ ∀ n d : Nat, (ev (PgC lf1 lg1) (n + 400) (d + 20)).c (.fn 108760262707398718737978912631) [.ref A.r, .int at_] K = some (.int a', K') := by
  obtain ⟨p, h1, f, b⟩ := h.si
  obtain ⟨K', ⟨p', S⟩, n1⟩ := lone_ok ⟨p, h1⟩ f at_ hat q
  have nx := h.ff.nx
  have bp : 27 ≤ p' := by
    rcases Nat.lt_or_ge p' 27 with l | l
    · obtain ⟨o, e⟩ := h.dn p' l
      have := S.gp
      rw [full_at (by omega) (by omega), e] at this
      cases this
    · exact l
  have g : ∀ k o, k < 27 → K.get k = some o → K'.get k = some o := fun k o l e => S.ext k o ((full_at (by omega) (by omega)).trans e)
  obtain ⟨S', f'⟩ := re_ S f (Nat.le_refl _) rfl rfl rfl rfl S.ext
  have := S.bva
  exact ⟨K', ⟨h.ff.lo (by omega) fun k o l e _ => g k o l e, ⟨p', S', f', b.1, b.2.1, b.2.2.1, bp⟩, g _ _ (by decide) h.b1, g _ _ (by decide) h.b2, fun k hk => let ⟨o, e⟩ := h.dn k hk; ⟨o, g _ _ hk e⟩⟩, n1⟩
theorem sm1_ok {a b : Nat} {o : MO} (hne : a ≠ b) (ha : K.get a = some o) (hb : K.get b = some o) (e : sm2 o o = some true) : sm1 K (.ref a) (.ref b) = some true := by
  show (if a = b then none else _) = _
  rw [if_neg hne, ha, zdH, hb]
  exact e
theorem feq_i (x : Int) : feq 6 (.int x) (.int x) = some true := by
  show some (decide (x = x)) = _
  rw [decide_eq_true rfl]
theorem dSame_c {k v u : MV} {r es : List (MV × MV)} (h : dGet k es = some u) (e : feq 6 v u = some true) (hk : isKey k = true) (hr : dSame r es = some true) : dSame ((k, v) :: r) es = some true := by
  show (dGet k es).bind _ = _
  rw [h, zdH, e, zdH, if_pos ⟨rfl, hk⟩, hr]
theorem val_same (x : Int) (i : Option Int) : sm2 (valD x i) (valD x i) = some true := by
  refine (if_pos ⟨rfl, vK _ _ _, vK _ _ _⟩).trans ?_
  cases i with
  | none => exact dSame_c (vX x none) (feq_i x) rfl rfl
  | some i => exact dSame_c (vX x (some i)) (feq_i x) rfl (dSame_c (vI x i) (feq_i i) rfl rfl)
theorem for_same (l : Int) (r : List MV) (h : feqL (feq 6) r r = some true) : feqL (feq 6) (forV l :: r) (forV l :: r) = some true := by
  have e : feq 6 (forV l) (forV l) = some true := by
    show (some true).bind (fun x => (Option.bind ((some true).bind fun x => (Option.bind ((some true).bind fun x => (Option.bind ((some (decide (l = l))).bind fun x => (some true).bind fun z => some (x && z)) fun z => some (x && z))) fun z => some (x && z))) fun z => some (x && z))) = _
    rw [decide_eq_true rfl]; rfl
  show (feq 6 (forV l) (forV l)).bind _ = _
  rw [e, zdH, h]; rfl
theorem pile_same (q : Pl) : feqL (feq 6) (pmv q) (pmv q) = some true := by
  cases q with
  | e => rfl
  | f l => exact for_same l [] rfl
  | fg l => exact for_same l _ rfl
  | w => rfl
theorem lst_same {l : List MV} (h : feqL (feq 6) l l = some true) : sm2 (.list l) (.list l) = some true := (if_pos rfl).trans h
end
end Mn.Mg
end
section
set_option maxRecDepth 100000
namespace Mn.Mg
noncomputable def good (F : Fl) (q : Nat × RS) : Bool := decide (q.1 ≤ F.rows.length) && decide (feqL (feq 6) q.2.notes q.2.notes = some true)
noncomputable def chk (F : Fl) : Nat → Nat × RS → Bool
  | 0, q => good F q
  | k + 1, q => good F q && (if F.rows.length ≤ q.1 then true else ((stepF F q).map (chk F k)).getD false)
theorem chk_ok (F : Fl) : ∀ (K : Nat) (q : Nat × RS), chk F K q = true → ∀ k, k ≤ K → ∃ q', itF F k q = some q' ∧ good F q' = true := by
  intro K
  induction K with
  | zero =>
    intro q h k hk
    obtain rfl := Nat.le_zero.mp hk
    exact ⟨q, rfl, h⟩
  | succ K ih =>
    intro q h k hk
    have h := (Bool.and_eq_true _ _).mp h
    cases k with
    | zero => exact ⟨q, rfl, h.1⟩
    | succ k =>
      by_cases e : F.rows.length ≤ q.1
      · exact ⟨q, if_pos e, h.1⟩
      · have h2 := h.2
        rw [if_neg e] at h2
        cases hs : stepF F q with
        | none => rw [hs] at h2; cases h2
        | some q1 =>
          rw [hs] at h2
          obtain ⟨q', e1, e2⟩ := ih q1 h2 k (Nat.le_of_succ_le_succ hk)
          refine ⟨q', (if_neg e).trans ?_, e2⟩
          rw [hs]
          exact e1
theorem itF_add (F : Fl) (b : Nat) : ∀ (a : Nat) (q : Nat × RS), itF F (a + b) q = (itF F a q).bind (itF F b) := by
  intro a
  induction a with
  | zero => intro q; rw [Nat.zero_add]; rfl
  | succ a ih =>
    intro q
    by_cases e : F.rows.length ≤ q.1
    · rw [itF_end F e, itF_end F e, zdH, itF_end F e]
    · rw [Nat.succ_add]
      show (if _ then _ else _) = Option.bind (if _ then _ else _) _
      rw [if_neg e, if_neg e]
      cases hs : stepF F q with
      | none => rfl
      | some q1 => exact ih q1
noncomputable abbrev fst_ (w : Nat) (v : Option MV) : Prop := ((v.bind asTup).bind List.head?).bind asStr = some w
noncomputable def fin (F : Fl) : Bool := ((itF F 60 (0, s0)).map fun q => decide (F.rows.length ≤ q.1) && decide (fst_ 5962296428 (idx q.2.notes 0)) && decide (fst_ 1595202368633 q.2.notes.getLast?)).getD false
noncomputable def allB (r m l st : Int) : Bool := chk (F1 r m l st) 105 (0, s0) && fin (F1 r m l st)
theorem all_ok : ∀ r ∈ [(1 : Int), 2], ∀ m ∈ [(1 : Int), 2], ∀ l ∈ [(4 : Int), 5, 6], ∀ st ∈ [(2 : Int), 3], allB r m l st = true := by decide +kernel
end Mn.Mg
end
section
set_option maxRecDepth 100000
namespace Mn.Mg
noncomputable def rOK (F : Fl) : Prop := ∀ (G : Fz), G 3 = some (.list [.str 329]) → G 9 = some (.list [.int 60, .int 50, .int 60]) → ∀ p ∈ F.rows, p.2.ok G
noncomputable def runX : MX := .call (.glb 91880068406736238) [.loc 6013346164, .call (.glb 5979595636) [.lst [.tup [.cst (.str 344), .cst (.int 0)]]], .glb 1659549907034316584678504, .cst (.int 16), .cst (.int 9)]
section
variable {A : RA} {F : Fl} {p : Nat} {s : RS} {H K K' : MH} {ns : List Int} {kb : Nat}
theorem smL_3 {a b c a' b' c' : MV} (h1 : sm1 K a a' = some true) (h2 : sm1 K b b' = some true) (h3 : sm1 K c c' = some true) : smL K [a, b, c] [a', b', c'] = some true := by
  show (sm1 K a a').bind _ = _
  rw [h1, zdH, if_pos rfl]
  show (sm1 K b b').bind _ = _
  rw [h2, zdH, if_pos rfl]
  show (sm1 K c c').bind _ = _
  rw [h3, zdH, if_pos rfl]
  rfl
theorem BI.whole (h : BI ns F A s kb K) (hok : rOK F) (hlen : F.rows.length < 1000) {b a : Nat} (hb : b ≤ 200) (q : itF F b (0, s0) = some (a, s)) (hn : feqL (feq 6) s.notes s.notes = some true) :
    ∃ K1 K2 A' p p', BI ns F A s kb K2 ∧ At A' F s p' K2 ∧ At A F s p K2 ∧ smL K2 [.ref A'.na, .ref A'.va, .ref p'] [.ref A.na, .ref A.va, .ref p] = some true ∧ (∀ (n d : Nat) (L : Loc), zhh 6013346164 L = some (.ref 17) → (ev (PgC lf1 lg1) (n + 200) (d + 9)).x runX L K = some (.ref A'.r, K1)) ∧
      (∀ (n d : Nat) (as : List MX) (L : Loc), kme (PgC lf1 lg1) n d 92015 as L (.ref A'.r, K1) = (evs (ev (PgC lf1 lg1) n d) as L K1).bind (kfn (PgC lf1 lg1) n d 196254634976314992399582029673955626514985301736485678804054381246074043110747630893076508655744927424379866933103 A'.r)) ∧ ∀ n d : Nat, (ev (PgC lf1 lg1) (n + 620) (d + 20)).c (.fn 196254634976314992399582029673955626514985301736485678804054381246074043110747630893076508655744927424379866933103) [.ref A'.r, .int 0, .int b] K1 = some (.int (goR F a), K2) := by
  obtain ⟨K1, A', p1, g1, S1, f1, h17, bd, n1⟩ := mk_run h.ff hok hlen
  obtain ⟨K2, n2, ⟨p2, S2⟩⟩ := goX ⟨p1, S1⟩ f1 0 b hb q
  have x1 := g1.next
  have x2 := S2.bva
  have up : ∀ k o, k < K.next → K.get k = some o → full K1 A' p1 k = some o := fun k o hk e => (full_at (by omega) (by omega)).trans (g1.get k o hk e)
  have kp : Kps K K2 := ⟨by omega, fun k o hk e => S2.ext k o (up k o hk e)⟩
  have B2 := h.kps kp
  obtain ⟨p, S0, f0, b0⟩ := h.si
  obtain ⟨S, f, _⟩ := SP.kps ⟨S0, f0, b0⟩ kp
  have y1 := S0.bna
  have y2 := S0.bva
  exact ⟨K1, K2, A', p, p2, B2, S2.at f1, S.at f, smL_3 (sm1_ok (by omega) S2.na S.na (lst_same hn)) (sm1_ok (by omega) S2.va S.va (val_same _ _)) (sm1_ok (gne (up p _ S0.bp S0.pi) S2.gp).symm S2.pi S.pi (lst_same (pile_same _))), n1, (S1.at f1).mg, n2⟩
noncomputable abbrev LL (A : RA) (a m b : Nat) (z : Loc) : Loc := (408345935179892, .ref 0) :: (23224679, .ref 2) :: (6013346164, .ref 17) :: (408371637742693, .ref A.r) :: (90484, .int (a : Int)) :: (6130069113, .int (m : Int)) :: (1522288389732, .int (b : Int)) :: z
noncomputable def whC : MX := .bop true [.cmp (.loc 6130069113) .lt (.loc 1522288389732), .cmp (.loc 90484) .lt (.call (.glb 23881070) [.att (.loc 6013346164) 6214874995])]
noncomputable def whB : List MS := [.asg (.tup [.nam 90484, .nam 6130069113]) (.tup [.call (.glb 108760262707398718737978912631) [.loc 408371637742693, .loc 90484], .bin .add (.loc 6130069113) (.cst (.int 1))])]
theorem kwh_t {P : Pg} {n d : Nat} {c : MX} {b : List MS} {L : Loc} {H : MH} : kwh P n d c b L (true, H) = (stmts (ev P n d) b L H).bind (kst ((ev P n d).s (.whl c b))) := rfl
theorem flat_at (h : FF F K) : attr (PgC lf1 lg1) K (.ref 17) 6214874995 = some (.ref 18) := atI h.h17 h.h16 rfl rfl rfl rfl
noncomputable def Tr (F : Fl) : Prop := ∀ k, k ≤ 105 → ∃ q, itF F k (0, s0) = some q ∧ good F q = true
theorem whl_ok (T : Tr F) (hlen : F.rows.length < 1000) {bound : Nat} (hb : bound ≤ 105) : ∀ (j many at_ : Nat) (s : RS) (K : MH), many + j = bound → BI ns F A s kb K → itF F many (0, s0) = some (at_, s) →
    ∃ a' m' s' K', BI ns F A s' kb K' ∧ itF F bound (0, s0) = some (a', s') ∧ itF F m' (0, s0) = some (a', s') ∧ m' ≤ bound ∧ ∀ (n d : Nat) (z : Loc), j + 500 ≤ n → (ev (PgC lf1 lg1) (n) (d + 20)).s (.whl whC whB) (LL A at_ many bound z) K = some (.nxt, LL A a' m' bound z, K') := by
  intro j
  induction j with
  | zero =>
    intro many at_ s K hm h it
    obtain rfl : many = bound := hm
    refine ⟨at_, many, s, K, h, it, it, Nat.le_refl _, fun n d z hn => ?_⟩
    obtain ⟨n, rfl⟩ : ∃ n', n = n' + 500 := ⟨n - 500, by omega⟩
    have c1 : ¬ ((many : Int) < (many : Int)) := Int.lt_irrefl _
    rw [es_whl]
    simp only [whC]
    simp only [zdH,zdI,zdJ,zdK,zdL,zdM,zdN,zdO,zdP,zdQ,zc2,zdR,zdS,zdT,zdU,zc3,zdV,zdW,zdX,zdY,zc4,zfP,zfQ,zfR,zfS,zdZ,zd0,zd1,zd2,zd3,zd4,zd5,zd6,zc5,zc6,zd7,zd8,zd9,zea,zeb,zec,zed,zc7,zc8,zee,zhd,zhe,zc9,zda,zdb,zdc,zdd,zde,zfT,zfU,zfV,zef,zeg,zdf,zdg,zdh,zdi,zeh,zei,zfW,zfX,zfY,zdj,zdk,zdl,zdm,zdn,zfZ,zej,zdo,zek,zf0,zf1,zdp,zdq,zdr,zel,zem,zen,zeo,zds,zdt,zdu,zf2,zf3,zep,zf4,zeq,zf5,zf6,zf7,zf8,zf9,zga,zer,zgb,zgc,zgd,zes,zge,zet,zeu,zgf,zev,zgg,zgh,zgi,zew,zgj,zgk,zgl,zgm,zgn,zgo,zex,zgp,zey,zez,zeA,zeB,zeC,zeD,zdv,zeE,zhf,zgq,zeF,zgr,zeG,zgs,zgt,zgu,zgv,zgw,zgx,zeH,zeI,zeJ,zgy,zgz,zeK,zgA,zeL,zeM,zgB,zgC,zhg,za8,zbM,zce,zbN,zcP,zbo,zbO,zbp,zbP,zal,zbq,zbr,zae,zbs,zbt,zbu,zcf,zbQ,za9,zbv,zbw,zaM,zba,zaU,zcz,zaz,zcg,zaq,zaV,zbR,zch,zbb,zbc,zbS,zbx,zaA,zbT,zbU,zci,zbd,zaf,zar,zas,zaa,zat,zaB,zaW,zbe,zbV,zcj,zbW,zcQ,zby,zbX,zbz,zbY,zam,zbA,zbB,zag,zbC,zbD,zbE,zck,zbZ,zbf,zbF,zbG,zaN,zbg,zaX,zcA,zaC,zcl,zau,zaY,zb0,zcm,zbh,zbi,zb1,zbH,zaD,zb2,zb3,zcn,zbj,zah,zav,zaw,zab,zax,zaE,zaZ,za0,za1,zai,zaj,zb4,zb5,zbk,zb6,zbI,zbJ,zco,zaF,zcR,za2,zaG,zan,za3,zaH,zay,zaO,zak,zaI,zaJ,zac,zaK,zaP,zbl,zb7,zdw,zdx,zcB,za4,zbm,zcS,zdy,zdz,zcC,zdA,zeN,zeO,zdB,zdC,zgD,zeP,zeQ,zgE,zeR,zeS,zgF,zgG,zgH,zgI,zgJ,zeT,zeU,zeV,zeW,zeX,zgK,zeY,zeZ,ze0,ze1,ze2,ze3,zgL,zgM,zgN,ze4,zdD,zgO,ze5,ze6,ze7,zgP,zgQ,zgR,zgS,ze8,zgT,ze9,zfa,zfb,zfc,zfd,zfe,zff,zdE,zcT,zcU,zcV,zcD,zcE,zfg,zfh,zfi,zfj,zfk,zgU,zfl,zfm,zfn,zgV,zgW,zgX,zgY,zgZ,zfo,zfp,zfq,zfr,zg0,zg1,zg2,zg3,zfs,zft,zg4,zfu,zfv,zfw,zfx,zfy,zdF,zfz,zfA,zfB,zfC,zfD,zg5,zfE,zg6,zg7,zg8,zg9,zha,zhb,zfF,zfG,zfH,zfI,zhc,zfJ,zfK,zfL,zfM,zfN,zb8,zcF,zcW,zcG,zfO,zcp,zcH,zcq,zcI,zaL,zcr,zcs,zao,zct,zcu,zcv,zcX,zcJ,zb9,zcw,zcx,zbn,zca,zbK,zdG,za5,zcY,zaQ,zbL,zcK,zcZ,zcb,zcc,zcL,zcy,za6,zcM,zcN,zc0,zcd,zap,zaR,zaS,zad,zaT,za7,F_FlowRun_go,if_true,if_false,zhh,zhi,cond_true,cond_false,List.zip,List.zipWith,List.length_cons,List.length_nil,Option.isSome_some,Bool.false_eq_true,reduceIte,reduceCtorEq,Nat.reduceEqDiff,Nat.reduceAdd,Nat.reduceLeDiff,Int.cast_ofNat_Int,decide_true,decide_false,Bool.and_true,Bool.true_and,Bool.and_false,Bool.false_and,Int.sub_zero,Int.reduceNeg,Nat.reduceLT,and_self,and_true,true_and,Bool.false_or,Bool.or_false,Bool.true_or,Bool.or_true,Bool.not_true,Bool.not_false,Int.natAbs_neg,Int.reduceSub,Int.reduceAdd,Int.reduceToNat,Int.natAbs_zero,Int.natAbs_one,Int.reduceLT,Int.reduceLE,Int.reduceGE,Int.reduceGT,decide_eq_true_eq,List.getElem?_cons_zero,List.getElem?_cons_succ,Nat.reduceSub,Int.reduceMul,Nat.reduceBEq,Nat.reducePow,Int.reducePow,and_false,false_and,eq_self,zc1,zcO _ _ zcB,IX,lim,F_law1,c1]
    rfl
  | succ j ih =>
    intro many at_ s K hm h it
    have c1 : (many : Int) < (bound : Int) := by omega
    have fa := flat_at h.ff
    have b1 : F.mv.length ≤ 1048576 := by rw [F.mv_len]; omega
    have h18 := h.ff.h18
    by_cases hat : F.rows.length ≤ at_
    · have ib : itF F bound (0, s0) = some (at_, s) := by
        rw [← hm, itF_add, it, zdH]; exact itF_end F hat _
      refine ⟨at_, many, s, K, h, ib, it, by omega, fun n d z hn => ?_⟩
      obtain ⟨n, rfl⟩ : ∃ n', n = n' + 500 := ⟨n - 500, by omega⟩
      have c2 : ¬ ((at_ : Int) < (F.mv.length : Int)) := by rw [F.mv_len]; omega
      rw [es_whl]
      simp only [whC]
      simp only [zdH,zdI,zdJ,zdK,zdL,zdM,zdN,zdO,zdP,zdQ,zc2,zdR,zdS,zdT,zdU,zc3,zdV,zdW,zdX,zdY,zc4,zfP,zfQ,zfR,zfS,zdZ,zd0,zd1,zd2,zd3,zd4,zd5,zd6,zc5,zc6,zd7,zd8,zd9,zea,zeb,zec,zed,zc7,zc8,zee,zhd,zhe,zc9,zda,zdb,zdc,zdd,zde,zfT,zfU,zfV,zef,zeg,zdf,zdg,zdh,zdi,zeh,zei,zfW,zfX,zfY,zdj,zdk,zdl,zdm,zdn,zfZ,zej,zdo,zek,zf0,zf1,zdp,zdq,zdr,zel,zem,zen,zeo,zds,zdt,zdu,zf2,zf3,zep,zf4,zeq,zf5,zf6,zf7,zf8,zf9,zga,zer,zgb,zgc,zgd,zes,zge,zet,zeu,zgf,zev,zgg,zgh,zgi,zew,zgj,zgk,zgl,zgm,zgn,zgo,zex,zgp,zey,zez,zeA,zeB,zeC,zeD,zdv,zeE,zhf,zgq,zeF,zgr,zeG,zgs,zgt,zgu,zgv,zgw,zgx,zeH,zeI,zeJ,zgy,zgz,zeK,zgA,zeL,zeM,zgB,zgC,zhg,za8,zbM,zce,zbN,zcP,zbo,zbO,zbp,zbP,zal,zbq,zbr,zae,zbs,zbt,zbu,zcf,zbQ,za9,zbv,zbw,zaM,zba,zaU,zcz,zaz,zcg,zaq,zaV,zbR,zch,zbb,zbc,zbS,zbx,zaA,zbT,zbU,zci,zbd,zaf,zar,zas,zaa,zat,zaB,zaW,zbe,zbV,zcj,zbW,zcQ,zby,zbX,zbz,zbY,zam,zbA,zbB,zag,zbC,zbD,zbE,zck,zbZ,zbf,zbF,zbG,zaN,zbg,zaX,zcA,zaC,zcl,zau,zaY,zb0,zcm,zbh,zbi,zb1,zbH,zaD,zb2,zb3,zcn,zbj,zah,zav,zaw,zab,zax,zaE,zaZ,za0,za1,zai,zaj,zb4,zb5,zbk,zb6,zbI,zbJ,zco,zaF,zcR,za2,zaG,zan,za3,zaH,zay,zaO,zak,zaI,zaJ,zac,zaK,zaP,zbl,zb7,zdw,zdx,zcB,za4,zbm,zcS,zdy,zdz,zcC,zdA,zeN,zeO,zdB,zdC,zgD,zeP,zeQ,zgE,zeR,zeS,zgF,zgG,zgH,zgI,zgJ,zeT,zeU,zeV,zeW,zeX,zgK,zeY,zeZ,ze0,ze1,ze2,ze3,zgL,zgM,zgN,ze4,zdD,zgO,ze5,ze6,ze7,zgP,zgQ,zgR,zgS,ze8,zgT,ze9,zfa,zfb,zfc,zfd,zfe,zff,zdE,zcT,zcU,zcV,zcD,zcE,zfg,zfh,zfi,zfj,zfk,zgU,zfl,zfm,zfn,zgV,zgW,zgX,zgY,zgZ,zfo,zfp,zfq,zfr,zg0,zg1,zg2,zg3,zfs,zft,zg4,zfu,zfv,zfw,zfx,zfy,zdF,zfz,zfA,zfB,zfC,zfD,zg5,zfE,zg6,zg7,zg8,zg9,zha,zhb,zfF,zfG,zfH,zfI,zhc,zfJ,zfK,zfL,zfM,zfN,zb8,zcF,zcW,zcG,zfO,zcp,zcH,zcq,zcI,zaL,zcr,zcs,zao,zct,zcu,zcv,zcX,zcJ,zb9,zcw,zcx,zbn,zca,zbK,zdG,za5,zcY,zaQ,zbL,zcK,zcZ,zcb,zcc,zcL,zcy,za6,zcM,zcN,zc0,zcd,zap,zaR,zaS,zad,zaT,za7,F_FlowRun_go,if_true,if_false,zhh,zhi,cond_true,cond_false,List.zip,List.zipWith,List.length_cons,List.length_nil,Option.isSome_some,Bool.false_eq_true,reduceIte,reduceCtorEq,Nat.reduceEqDiff,Nat.reduceAdd,Nat.reduceLeDiff,Int.cast_ofNat_Int,decide_true,decide_false,Bool.and_true,Bool.true_and,Bool.and_false,Bool.false_and,Int.sub_zero,Int.reduceNeg,Nat.reduceLT,and_self,and_true,true_and,Bool.false_or,Bool.or_false,Bool.true_or,Bool.or_true,Bool.not_true,Bool.not_false,Int.natAbs_neg,Int.reduceSub,Int.reduceAdd,Int.reduceToNat,Int.natAbs_zero,Int.natAbs_one,Int.reduceLT,Int.reduceLE,Int.reduceGE,Int.reduceGT,decide_eq_true_eq,List.getElem?_cons_zero,List.getElem?_cons_succ,Nat.reduceSub,Int.reduceMul,Nat.reduceBEq,Nat.reducePow,Int.reducePow,and_false,false_and,eq_self,zc1,zcO _ _ zcB,IX,lim,F_law1,c1,fa,h18,b1,c2]
      rfl
    · obtain ⟨⟨a1, s1⟩, q1, _⟩ := T (many + 1) (by omega)
      have q := q1
      rw [itF_add, it, zdH] at q
      have q : stepF F (at_, s) = some (a1, s1) := by
        refine bnd ((if_neg hat).symm.trans q) fun a e1 e2 => ?_
        rw [e1, ← (show a = (a1, s1) from Option.some.inj e2)]
      obtain ⟨K1, h1, n1⟩ := h.row at_ (by omega) q
      obtain ⟨a', m', s', K', hB, i1, i2, hle, he⟩ := ih (many + 1) a1 s1 K1 (by omega) h1 q1
      refine ⟨a', m', s', K', hB, i1, i2, hle, fun n d z hn => ?_⟩
      obtain ⟨n, rfl⟩ : ∃ n', n = n' + 501 := ⟨n - 501, by omega⟩
      have he := he (n + 500) d z (by omega)
      have c2 : ((at_ : Int) < (F.mv.length : Int)) := by rw [F.mv_len]; omega
      rw [es_whl]
      simp only [whC]
      simp only [zdH,zdI,zdJ,zdK,zdL,zdM,zdN,zdO,zdP,zdQ,zc2,zdR,zdS,zdT,zdU,zc3,zdV,zdW,zdX,zdY,zc4,zfP,zfQ,zfR,zfS,zdZ,zd0,zd1,zd2,zd3,zd4,zd5,zd6,zc5,zc6,zd7,zd8,zd9,zea,zeb,zec,zed,zc7,zc8,zee,zhd,zhe,zc9,zda,zdb,zdc,zdd,zde,zfT,zfU,zfV,zef,zeg,zdf,zdg,zdh,zdi,zeh,zei,zfW,zfX,zfY,zdj,zdk,zdl,zdm,zdn,zfZ,zej,zdo,zek,zf0,zf1,zdp,zdq,zdr,zel,zem,zen,zeo,zds,zdt,zdu,zf2,zf3,zep,zf4,zeq,zf5,zf6,zf7,zf8,zf9,zga,zer,zgb,zgc,zgd,zes,zge,zet,zeu,zgf,zev,zgg,zgh,zgi,zew,zgj,zgk,zgl,zgm,zgn,zgo,zex,zgp,zey,zez,zeA,zeB,zeC,zeD,zdv,zeE,zhf,zgq,zeF,zgr,zeG,zgs,zgt,zgu,zgv,zgw,zgx,zeH,zeI,zeJ,zgy,zgz,zeK,zgA,zeL,zeM,zgB,zgC,zhg,za8,zbM,zce,zbN,zcP,zbo,zbO,zbp,zbP,zal,zbq,zbr,zae,zbs,zbt,zbu,zcf,zbQ,za9,zbv,zbw,zaM,zba,zaU,zcz,zaz,zcg,zaq,zaV,zbR,zch,zbb,zbc,zbS,zbx,zaA,zbT,zbU,zci,zbd,zaf,zar,zas,zaa,zat,zaB,zaW,zbe,zbV,zcj,zbW,zcQ,zby,zbX,zbz,zbY,zam,zbA,zbB,zag,zbC,zbD,zbE,zck,zbZ,zbf,zbF,zbG,zaN,zbg,zaX,zcA,zaC,zcl,zau,zaY,zb0,zcm,zbh,zbi,zb1,zbH,zaD,zb2,zb3,zcn,zbj,zah,zav,zaw,zab,zax,zaE,zaZ,za0,za1,zai,zaj,zb4,zb5,zbk,zb6,zbI,zbJ,zco,zaF,zcR,za2,zaG,zan,za3,zaH,zay,zaO,zak,zaI,zaJ,zac,zaK,zaP,zbl,zb7,zdw,zdx,zcB,za4,zbm,zcS,zdy,zdz,zcC,zdA,zeN,zeO,zdB,zdC,zgD,zeP,zeQ,zgE,zeR,zeS,zgF,zgG,zgH,zgI,zgJ,zeT,zeU,zeV,zeW,zeX,zgK,zeY,zeZ,ze0,ze1,ze2,ze3,zgL,zgM,zgN,ze4,zdD,zgO,ze5,ze6,ze7,zgP,zgQ,zgR,zgS,ze8,zgT,ze9,zfa,zfb,zfc,zfd,zfe,zff,zdE,zcT,zcU,zcV,zcD,zcE,zfg,zfh,zfi,zfj,zfk,zgU,zfl,zfm,zfn,zgV,zgW,zgX,zgY,zgZ,zfo,zfp,zfq,zfr,zg0,zg1,zg2,zg3,zfs,zft,zg4,zfu,zfv,zfw,zfx,zfy,zdF,zfz,zfA,zfB,zfC,zfD,zg5,zfE,zg6,zg7,zg8,zg9,zha,zhb,zfF,zfG,zfH,zfI,zhc,zfJ,zfK,zfL,zfM,zfN,zb8,zcF,zcW,zcG,zfO,zcp,zcH,zcq,zcI,zaL,zcr,zcs,zao,zct,zcu,zcv,zcX,zcJ,zb9,zcw,zcx,zbn,zca,zbK,zdG,za5,zcY,zaQ,zbL,zcK,zcZ,zcb,zcc,zcL,zcy,za6,zcM,zcN,zc0,zcd,zap,zaR,zaS,zad,zaT,za7,F_FlowRun_go,if_true,if_false,zhh,zhi,cond_true,cond_false,List.zip,List.zipWith,List.length_cons,List.length_nil,Option.isSome_some,Bool.false_eq_true,reduceIte,reduceCtorEq,Nat.reduceEqDiff,Nat.reduceAdd,Nat.reduceLeDiff,Int.cast_ofNat_Int,decide_true,decide_false,Bool.and_true,Bool.true_and,Bool.and_false,Bool.false_and,Int.sub_zero,Int.reduceNeg,Nat.reduceLT,and_self,and_true,true_and,Bool.false_or,Bool.or_false,Bool.true_or,Bool.or_true,Bool.not_true,Bool.not_false,Int.natAbs_neg,Int.reduceSub,Int.reduceAdd,Int.reduceToNat,Int.natAbs_zero,Int.natAbs_one,Int.reduceLT,Int.reduceLE,Int.reduceGE,Int.reduceGT,decide_eq_true_eq,List.getElem?_cons_zero,List.getElem?_cons_succ,Nat.reduceSub,Int.reduceMul,Nat.reduceBEq,Nat.reducePow,Int.reducePow,and_false,false_and,eq_self,zc1,zcO _ _ zcB,IX,lim,F_law1,c1,fa,h18,b1,c2]
      rw [kwh_t]
      simp only [whC, whB, castS] at he ⊢
      simp only [zdH,zdI,zdJ,zdK,zdL,zdM,zdN,zdO,zdP,zdQ,zc2,zdR,zdS,zdT,zdU,zc3,zdV,zdW,zdX,zdY,zc4,zfP,zfQ,zfR,zfS,zdZ,zd0,zd1,zd2,zd3,zd4,zd5,zd6,zc5,zc6,zd7,zd8,zd9,zea,zeb,zec,zed,zc7,zc8,zee,zhd,zhe,zc9,zda,zdb,zdc,zdd,zde,zfT,zfU,zfV,zef,zeg,zdf,zdg,zdh,zdi,zeh,zei,zfW,zfX,zfY,zdj,zdk,zdl,zdm,zdn,zfZ,zej,zdo,zek,zf0,zf1,zdp,zdq,zdr,zel,zem,zen,zeo,zds,zdt,zdu,zf2,zf3,zep,zf4,zeq,zf5,zf6,zf7,zf8,zf9,zga,zer,zgb,zgc,zgd,zes,zge,zet,zeu,zgf,zev,zgg,zgh,zgi,zew,zgj,zgk,zgl,zgm,zgn,zgo,zex,zgp,zey,zez,zeA,zeB,zeC,zeD,zdv,zeE,zhf,zgq,zeF,zgr,zeG,zgs,zgt,zgu,zgv,zgw,zgx,zeH,zeI,zeJ,zgy,zgz,zeK,zgA,zeL,zeM,zgB,zgC,zhg,za8,zbM,zce,zbN,zcP,zbo,zbO,zbp,zbP,zal,zbq,zbr,zae,zbs,zbt,zbu,zcf,zbQ,za9,zbv,zbw,zaM,zba,zaU,zcz,zaz,zcg,zaq,zaV,zbR,zch,zbb,zbc,zbS,zbx,zaA,zbT,zbU,zci,zbd,zaf,zar,zas,zaa,zat,zaB,zaW,zbe,zbV,zcj,zbW,zcQ,zby,zbX,zbz,zbY,zam,zbA,zbB,zag,zbC,zbD,zbE,zck,zbZ,zbf,zbF,zbG,zaN,zbg,zaX,zcA,zaC,zcl,zau,zaY,zb0,zcm,zbh,zbi,zb1,zbH,zaD,zb2,zb3,zcn,zbj,zah,zav,zaw,zab,zax,zaE,zaZ,za0,za1,zai,zaj,zb4,zb5,zbk,zb6,zbI,zbJ,zco,zaF,zcR,za2,zaG,zan,za3,zaH,zay,zaO,zak,zaI,zaJ,zac,zaK,zaP,zbl,zb7,zdw,zdx,zcB,za4,zbm,zcS,zdy,zdz,zcC,zdA,zeN,zeO,zdB,zdC,zgD,zeP,zeQ,zgE,zeR,zeS,zgF,zgG,zgH,zgI,zgJ,zeT,zeU,zeV,zeW,zeX,zgK,zeY,zeZ,ze0,ze1,ze2,ze3,zgL,zgM,zgN,ze4,zdD,zgO,ze5,ze6,ze7,zgP,zgQ,zgR,zgS,ze8,zgT,ze9,zfa,zfb,zfc,zfd,zfe,zff,zdE,zcT,zcU,zcV,zcD,zcE,zfg,zfh,zfi,zfj,zfk,zgU,zfl,zfm,zfn,zgV,zgW,zgX,zgY,zgZ,zfo,zfp,zfq,zfr,zg0,zg1,zg2,zg3,zfs,zft,zg4,zfu,zfv,zfw,zfx,zfy,zdF,zfz,zfA,zfB,zfC,zfD,zg5,zfE,zg6,zg7,zg8,zg9,zha,zhb,zfF,zfG,zfH,zfI,zhc,zfJ,zfK,zfL,zfM,zfN,zb8,zcF,zcW,zcG,zfO,zcp,zcH,zcq,zcI,zaL,zcr,zcs,zao,zct,zcu,zcv,zcX,zcJ,zb9,zcw,zcx,zbn,zca,zbK,zdG,za5,zcY,zaQ,zbL,zcK,zcZ,zcb,zcc,zcL,zcy,za6,zcM,zcN,zc0,zcd,zap,zaR,zaS,zad,zaT,za7,F_FlowRun_go,if_true,if_false,zhh,zhi,cond_true,cond_false,List.zip,List.zipWith,List.length_cons,List.length_nil,Option.isSome_some,Bool.false_eq_true,reduceIte,reduceCtorEq,Nat.reduceEqDiff,Nat.reduceAdd,Nat.reduceLeDiff,Int.cast_ofNat_Int,decide_true,decide_false,Bool.and_true,Bool.true_and,Bool.and_false,Bool.false_and,Int.sub_zero,Int.reduceNeg,Nat.reduceLT,and_self,and_true,true_and,Bool.false_or,Bool.or_false,Bool.true_or,Bool.or_true,Bool.not_true,Bool.not_false,Int.natAbs_neg,Int.reduceSub,Int.reduceAdd,Int.reduceToNat,Int.natAbs_zero,Int.natAbs_one,Int.reduceLT,Int.reduceLE,Int.reduceGE,Int.reduceGT,decide_eq_true_eq,List.getElem?_cons_zero,List.getElem?_cons_succ,Nat.reduceSub,Int.reduceMul,Nat.reduceBEq,Nat.reducePow,Int.reducePow,and_false,false_and,eq_self,zc1,zcO _ _ zcB,IX,lim,F_law1,g1_F__law_one_row,f1_F__law_one_row,n1]
      exact he
end
end Mn.Mg
end
section
set_option maxRecDepth 100000
namespace Mn.Mg
section
variable {A : RA} {F : Fl} {p : Nat} {s : RS} {H K K1 K' : MH} {ns : List Int} {kb : Nat}
noncomputable def incX : MX := .ife (.cmp (.loc 6248821358) .lt (.cst (.int 5))) (.call (.glb 6482616824352480584055) [.loc 23224679, .cst (.int 9)]) (.cst (.int 60))
noncomputable def lb : List MS := fb 4 F_law1.body
noncomputable abbrev Zt (z : Loc) : Prop := z = [] ∨ ∃ w, z = [(1612364868709, w)]
theorem whX : fb 4 F_law1.body = .asg (.nam 1522288389732) (.bin .add (.loc 1522288389732) incX) :: .whl whC whB :: .asg (.nam 1612364868709) runX :: (fb 4 F_law1.body).drop 3 := rfl
theorem turn_ok (T : Tr F) (hok : rOK F) (hlen : F.rows.length < 1000) {many at_ bound v kb1 : Nat} (i : Int) (h : BI ns F A s kb1 K1) (it : itF F many (0, s0) = some (at_, s)) (hm : many ≤ bound) (hb : bound + v ≤ 105) :
    ∃ a' m' s' K' w, BI ns F A s' kb1 K' ∧ itF F (bound + v) (0, s0) = some (a', s') ∧ itF F m' (0, s0) = some (a', s') ∧ m' ≤ bound + v ∧ ∀ (n d : Nat) (z : Loc), Zt z → (ev (PgC lf1 lg1) (n + 798) (d + 20)).x incX (LL A at_ many bound ((6248821358, .int i) :: z)) K = some (.int (v : Int), K1) →
      stmts (ev (PgC lf1 lg1) (n + 800) (d + 20)) (fb 4 F_law1.body) (LL A at_ many bound ((6248821358, .int i) :: z)) K = some (.nxt, LL A a' m' (bound + v) [(6248821358, .int i), (1612364868709, w)], K') := by
  obtain ⟨a', m', s', K2, h2, i1, i2, hle, n2⟩ := whl_ok T hlen hb (bound + v - many) many at_ s K1 (by omega) h it
  obtain ⟨q, q1, hg⟩ := T (bound + v) hb
  obtain rfl : q = (a', s') := Option.some.inj (q1.symm.trans i1)
  have hg := (Bool.and_eq_true _ _).mp hg
  have g1 : a' ≤ F.rows.length := of_decide_eq_true hg.1
  have g2 : feqL (feq 6) s'.notes s'.notes = some true := of_decide_eq_true hg.2
  obtain ⟨K3, K4, A', p, p', h4, tw, tt, hsm, n3, mg, n4⟩ := h2.whole hok hlen (by omega) i1 g2
  refine ⟨a', m', s', K4, .ref A'.r, h4, i1, i2, hle, fun n d z hz he => ?_⟩
  obtain ⟨B, hB⟩ : ∃ B, bound + v = B := ⟨_, rfl⟩
  rw [hB] at n2 n4 ⊢
  have n2 := n2 (n + 800) d ((6248821358, .int i) :: z) (by omega)
  have n3 : (ev (PgC lf1 lg1) (n + 799) (d + 20)).x runX (LL A a' m' B ((6248821358, .int i) :: z)) K2 = some (.ref A'.r, K3) := n3 (n + 599) (d + 11) _ rfl
  have c0 : (bound : Int) + (v : Int) = (B : Int) := by omega
  have b1 : F.mv.length ≤ 1048576 := by rw [F.mv_len]; omega
  have h18 := h4.ff.h18
  have fa := flat_at h4.ff
  rw [whX]
  by_cases e : (a' : Int) = (F.mv.length : Int)
  · have hgo : goR F a' = (a' : Int) := if_pos (by have := F.mv_len; omega)
    rw [hgo] at n4
    rcases hz with rfl | ⟨w, rfl⟩
    · simp only [LL, F_law1, fb, List.getElem?_cons_zero, List.getElem?_cons_succ, List.drop] at he n2 n3 ⊢
      simp only [zdH,zdI,zdJ,zdK,zdL,zdM,zdN,zdO,zdP,zdQ,zc2,zdR,zdS,zdT,zdU,zc3,zdV,zdW,zdX,zdY,zc4,zfP,zfQ,zfR,zfS,zdZ,zd0,zd1,zd2,zd3,zd4,zd5,zd6,zc5,zc6,zd7,zd8,zd9,zea,zeb,zec,zed,zc7,zc8,zee,zhd,zhe,zc9,zda,zdb,zdc,zdd,zde,zfT,zfU,zfV,zef,zeg,zdf,zdg,zdh,zdi,zeh,zei,zfW,zfX,zfY,zdj,zdk,zdl,zdm,zdn,zfZ,zej,zdo,zek,zf0,zf1,zdp,zdq,zdr,zel,zem,zen,zeo,zds,zdt,zdu,zf2,zf3,zep,zf4,zeq,zf5,zf6,zf7,zf8,zf9,zga,zer,zgb,zgc,zgd,zes,zge,zet,zeu,zgf,zev,zgg,zgh,zgi,zew,zgj,zgk,zgl,zgm,zgn,zgo,zex,zgp,zey,zez,zeA,zeB,zeC,zeD,zdv,zeE,zhf,zgq,zeF,zgr,zeG,zgs,zgt,zgu,zgv,zgw,zgx,zeH,zeI,zeJ,zgy,zgz,zeK,zgA,zeL,zeM,zgB,zgC,zhg,za8,zbM,zce,zbN,zcP,zbo,zbO,zbp,zbP,zal,zbq,zbr,zae,zbs,zbt,zbu,zcf,zbQ,za9,zbv,zbw,zaM,zba,zaU,zcz,zaz,zcg,zaq,zaV,zbR,zch,zbb,zbc,zbS,zbx,zaA,zbT,zbU,zci,zbd,zaf,zar,zas,zaa,zat,zaB,zaW,zbe,zbV,zcj,zbW,zcQ,zby,zbX,zbz,zbY,zam,zbA,zbB,zag,zbC,zbD,zbE,zck,zbZ,zbf,zbF,zbG,zaN,zbg,zaX,zcA,zaC,zcl,zau,zaY,zb0,zcm,zbh,zbi,zb1,zbH,zaD,zb2,zb3,zcn,zbj,zah,zav,zaw,zab,zax,zaE,zaZ,za0,za1,zai,zaj,zb4,zb5,zbk,zb6,zbI,zbJ,zco,zaF,zcR,za2,zaG,zan,za3,zaH,zay,zaO,zak,zaI,zaJ,zac,zaK,zaP,zbl,zb7,zdw,zdx,zcB,za4,zbm,zcS,zdy,zdz,zcC,zdA,zeN,zeO,zdB,zdC,zgD,zeP,zeQ,zgE,zeR,zeS,zgF,zgG,zgH,zgI,zgJ,zeT,zeU,zeV,zeW,zeX,zgK,zeY,zeZ,ze0,ze1,ze2,ze3,zgL,zgM,zgN,ze4,zdD,zgO,ze5,ze6,ze7,zgP,zgQ,zgR,zgS,ze8,zgT,ze9,zfa,zfb,zfc,zfd,zfe,zff,zdE,zcT,zcU,zcV,zcD,zcE,zfg,zfh,zfi,zfj,zfk,zgU,zfl,zfm,zfn,zgV,zgW,zgX,zgY,zgZ,zfo,zfp,zfq,zfr,zg0,zg1,zg2,zg3,zfs,zft,zg4,zfu,zfv,zfw,zfx,zfy,zdF,zfz,zfA,zfB,zfC,zfD,zg5,zfE,zg6,zg7,zg8,zg9,zha,zhb,zfF,zfG,zfH,zfI,zhc,zfJ,zfK,zfL,zfM,zfN,zb8,zcF,zcW,zcG,zfO,zcp,zcH,zcq,zcI,zaL,zcr,zcs,zao,zct,zcu,zcv,zcX,zcJ,zb9,zcw,zcx,zbn,zca,zbK,zdG,za5,zcY,zaQ,zbL,zcK,zcZ,zcb,zcc,zcL,zcy,za6,zcM,zcN,zc0,zcd,zap,zaR,zaS,zad,zaT,za7,F_FlowRun_go,if_true,if_false,zhh,zhi,cond_true,cond_false,List.zip,List.zipWith,List.length_cons,List.length_nil,Option.isSome_some,Bool.false_eq_true,reduceIte,reduceCtorEq,Nat.reduceEqDiff,Nat.reduceAdd,Nat.reduceLeDiff,Int.cast_ofNat_Int,decide_true,decide_false,Bool.and_true,Bool.true_and,Bool.and_false,Bool.false_and,Int.sub_zero,Int.reduceNeg,Nat.reduceLT,and_self,and_true,true_and,Bool.false_or,Bool.or_false,Bool.true_or,Bool.or_true,Bool.not_true,Bool.not_false,Int.natAbs_neg,Int.reduceSub,Int.reduceAdd,Int.reduceToNat,Int.natAbs_zero,Int.natAbs_one,Int.reduceLT,Int.reduceLE,Int.reduceGE,Int.reduceGT,decide_eq_true_eq,List.getElem?_cons_zero,List.getElem?_cons_succ,Nat.reduceSub,Int.reduceMul,Nat.reduceBEq,Nat.reducePow,Int.reducePow,and_false,false_and,eq_self,zc1,zcO _ _ zcB,IX,lim,F_law1,he,c0,n2,n3,mg,n4,fa,h18,b1,eq_true e,tw.notes,tw.values,tw.control,tw.pile,tt.notes,tt.values,tt.control,tt.pile,hsm]
    · simp only [LL, F_law1, fb, List.getElem?_cons_zero, List.getElem?_cons_succ, List.drop] at he n2 n3 ⊢
      simp only [zdH,zdI,zdJ,zdK,zdL,zdM,zdN,zdO,zdP,zdQ,zc2,zdR,zdS,zdT,zdU,zc3,zdV,zdW,zdX,zdY,zc4,zfP,zfQ,zfR,zfS,zdZ,zd0,zd1,zd2,zd3,zd4,zd5,zd6,zc5,zc6,zd7,zd8,zd9,zea,zeb,zec,zed,zc7,zc8,zee,zhd,zhe,zc9,zda,zdb,zdc,zdd,zde,zfT,zfU,zfV,zef,zeg,zdf,zdg,zdh,zdi,zeh,zei,zfW,zfX,zfY,zdj,zdk,zdl,zdm,zdn,zfZ,zej,zdo,zek,zf0,zf1,zdp,zdq,zdr,zel,zem,zen,zeo,zds,zdt,zdu,zf2,zf3,zep,zf4,zeq,zf5,zf6,zf7,zf8,zf9,zga,zer,zgb,zgc,zgd,zes,zge,zet,zeu,zgf,zev,zgg,zgh,zgi,zew,zgj,zgk,zgl,zgm,zgn,zgo,zex,zgp,zey,zez,zeA,zeB,zeC,zeD,zdv,zeE,zhf,zgq,zeF,zgr,zeG,zgs,zgt,zgu,zgv,zgw,zgx,zeH,zeI,zeJ,zgy,zgz,zeK,zgA,zeL,zeM,zgB,zgC,zhg,za8,zbM,zce,zbN,zcP,zbo,zbO,zbp,zbP,zal,zbq,zbr,zae,zbs,zbt,zbu,zcf,zbQ,za9,zbv,zbw,zaM,zba,zaU,zcz,zaz,zcg,zaq,zaV,zbR,zch,zbb,zbc,zbS,zbx,zaA,zbT,zbU,zci,zbd,zaf,zar,zas,zaa,zat,zaB,zaW,zbe,zbV,zcj,zbW,zcQ,zby,zbX,zbz,zbY,zam,zbA,zbB,zag,zbC,zbD,zbE,zck,zbZ,zbf,zbF,zbG,zaN,zbg,zaX,zcA,zaC,zcl,zau,zaY,zb0,zcm,zbh,zbi,zb1,zbH,zaD,zb2,zb3,zcn,zbj,zah,zav,zaw,zab,zax,zaE,zaZ,za0,za1,zai,zaj,zb4,zb5,zbk,zb6,zbI,zbJ,zco,zaF,zcR,za2,zaG,zan,za3,zaH,zay,zaO,zak,zaI,zaJ,zac,zaK,zaP,zbl,zb7,zdw,zdx,zcB,za4,zbm,zcS,zdy,zdz,zcC,zdA,zeN,zeO,zdB,zdC,zgD,zeP,zeQ,zgE,zeR,zeS,zgF,zgG,zgH,zgI,zgJ,zeT,zeU,zeV,zeW,zeX,zgK,zeY,zeZ,ze0,ze1,ze2,ze3,zgL,zgM,zgN,ze4,zdD,zgO,ze5,ze6,ze7,zgP,zgQ,zgR,zgS,ze8,zgT,ze9,zfa,zfb,zfc,zfd,zfe,zff,zdE,zcT,zcU,zcV,zcD,zcE,zfg,zfh,zfi,zfj,zfk,zgU,zfl,zfm,zfn,zgV,zgW,zgX,zgY,zgZ,zfo,zfp,zfq,zfr,zg0,zg1,zg2,zg3,zfs,zft,zg4,zfu,zfv,zfw,zfx,zfy,zdF,zfz,zfA,zfB,zfC,zfD,zg5,zfE,zg6,zg7,zg8,zg9,zha,zhb,zfF,zfG,zfH,zfI,zhc,zfJ,zfK,zfL,zfM,zfN,zb8,zcF,zcW,zcG,zfO,zcp,zcH,zcq,zcI,zaL,zcr,zcs,zao,zct,zcu,zcv,zcX,zcJ,zb9,zcw,zcx,zbn,zca,zbK,zdG,za5,zcY,zaQ,zbL,zcK,zcZ,zcb,zcc,zcL,zcy,za6,zcM,zcN,zc0,zcd,zap,zaR,zaS,zad,zaT,za7,F_FlowRun_go,if_true,if_false,zhh,zhi,cond_true,cond_false,List.zip,List.zipWith,List.length_cons,List.length_nil,Option.isSome_some,Bool.false_eq_true,reduceIte,reduceCtorEq,Nat.reduceEqDiff,Nat.reduceAdd,Nat.reduceLeDiff,Int.cast_ofNat_Int,decide_true,decide_false,Bool.and_true,Bool.true_and,Bool.and_false,Bool.false_and,Int.sub_zero,Int.reduceNeg,Nat.reduceLT,and_self,and_true,true_and,Bool.false_or,Bool.or_false,Bool.true_or,Bool.or_true,Bool.not_true,Bool.not_false,Int.natAbs_neg,Int.reduceSub,Int.reduceAdd,Int.reduceToNat,Int.natAbs_zero,Int.natAbs_one,Int.reduceLT,Int.reduceLE,Int.reduceGE,Int.reduceGT,decide_eq_true_eq,List.getElem?_cons_zero,List.getElem?_cons_succ,Nat.reduceSub,Int.reduceMul,Nat.reduceBEq,Nat.reducePow,Int.reducePow,and_false,false_and,eq_self,zc1,zcO _ _ zcB,IX,lim,F_law1,he,c0,n2,n3,mg,n4,fa,h18,b1,eq_true e,tw.notes,tw.values,tw.control,tw.pile,tt.notes,tt.values,tt.control,tt.pile,hsm]
  · have hgo : goR F a' = -1 := if_neg (by have := F.mv_len; omega)
    rw [hgo] at n4
    rcases hz with rfl | ⟨w, rfl⟩
    · simp only [LL, F_law1, fb, List.getElem?_cons_zero, List.getElem?_cons_succ, List.drop] at he n2 n3 ⊢
      simp only [zdH,zdI,zdJ,zdK,zdL,zdM,zdN,zdO,zdP,zdQ,zc2,zdR,zdS,zdT,zdU,zc3,zdV,zdW,zdX,zdY,zc4,zfP,zfQ,zfR,zfS,zdZ,zd0,zd1,zd2,zd3,zd4,zd5,zd6,zc5,zc6,zd7,zd8,zd9,zea,zeb,zec,zed,zc7,zc8,zee,zhd,zhe,zc9,zda,zdb,zdc,zdd,zde,zfT,zfU,zfV,zef,zeg,zdf,zdg,zdh,zdi,zeh,zei,zfW,zfX,zfY,zdj,zdk,zdl,zdm,zdn,zfZ,zej,zdo,zek,zf0,zf1,zdp,zdq,zdr,zel,zem,zen,zeo,zds,zdt,zdu,zf2,zf3,zep,zf4,zeq,zf5,zf6,zf7,zf8,zf9,zga,zer,zgb,zgc,zgd,zes,zge,zet,zeu,zgf,zev,zgg,zgh,zgi,zew,zgj,zgk,zgl,zgm,zgn,zgo,zex,zgp,zey,zez,zeA,zeB,zeC,zeD,zdv,zeE,zhf,zgq,zeF,zgr,zeG,zgs,zgt,zgu,zgv,zgw,zgx,zeH,zeI,zeJ,zgy,zgz,zeK,zgA,zeL,zeM,zgB,zgC,zhg,za8,zbM,zce,zbN,zcP,zbo,zbO,zbp,zbP,zal,zbq,zbr,zae,zbs,zbt,zbu,zcf,zbQ,za9,zbv,zbw,zaM,zba,zaU,zcz,zaz,zcg,zaq,zaV,zbR,zch,zbb,zbc,zbS,zbx,zaA,zbT,zbU,zci,zbd,zaf,zar,zas,zaa,zat,zaB,zaW,zbe,zbV,zcj,zbW,zcQ,zby,zbX,zbz,zbY,zam,zbA,zbB,zag,zbC,zbD,zbE,zck,zbZ,zbf,zbF,zbG,zaN,zbg,zaX,zcA,zaC,zcl,zau,zaY,zb0,zcm,zbh,zbi,zb1,zbH,zaD,zb2,zb3,zcn,zbj,zah,zav,zaw,zab,zax,zaE,zaZ,za0,za1,zai,zaj,zb4,zb5,zbk,zb6,zbI,zbJ,zco,zaF,zcR,za2,zaG,zan,za3,zaH,zay,zaO,zak,zaI,zaJ,zac,zaK,zaP,zbl,zb7,zdw,zdx,zcB,za4,zbm,zcS,zdy,zdz,zcC,zdA,zeN,zeO,zdB,zdC,zgD,zeP,zeQ,zgE,zeR,zeS,zgF,zgG,zgH,zgI,zgJ,zeT,zeU,zeV,zeW,zeX,zgK,zeY,zeZ,ze0,ze1,ze2,ze3,zgL,zgM,zgN,ze4,zdD,zgO,ze5,ze6,ze7,zgP,zgQ,zgR,zgS,ze8,zgT,ze9,zfa,zfb,zfc,zfd,zfe,zff,zdE,zcT,zcU,zcV,zcD,zcE,zfg,zfh,zfi,zfj,zfk,zgU,zfl,zfm,zfn,zgV,zgW,zgX,zgY,zgZ,zfo,zfp,zfq,zfr,zg0,zg1,zg2,zg3,zfs,zft,zg4,zfu,zfv,zfw,zfx,zfy,zdF,zfz,zfA,zfB,zfC,zfD,zg5,zfE,zg6,zg7,zg8,zg9,zha,zhb,zfF,zfG,zfH,zfI,zhc,zfJ,zfK,zfL,zfM,zfN,zb8,zcF,zcW,zcG,zfO,zcp,zcH,zcq,zcI,zaL,zcr,zcs,zao,zct,zcu,zcv,zcX,zcJ,zb9,zcw,zcx,zbn,zca,zbK,zdG,za5,zcY,zaQ,zbL,zcK,zcZ,zcb,zcc,zcL,zcy,za6,zcM,zcN,zc0,zcd,zap,zaR,zaS,zad,zaT,za7,F_FlowRun_go,if_true,if_false,zhh,zhi,cond_true,cond_false,List.zip,List.zipWith,List.length_cons,List.length_nil,Option.isSome_some,Bool.false_eq_true,reduceIte,reduceCtorEq,Nat.reduceEqDiff,Nat.reduceAdd,Nat.reduceLeDiff,Int.cast_ofNat_Int,decide_true,decide_false,Bool.and_true,Bool.true_and,Bool.and_false,Bool.false_and,Int.sub_zero,Int.reduceNeg,Nat.reduceLT,and_self,and_true,true_and,Bool.false_or,Bool.or_false,Bool.true_or,Bool.or_true,Bool.not_true,Bool.not_false,Int.natAbs_neg,Int.reduceSub,Int.reduceAdd,Int.reduceToNat,Int.natAbs_zero,Int.natAbs_one,Int.reduceLT,Int.reduceLE,Int.reduceGE,Int.reduceGT,decide_eq_true_eq,List.getElem?_cons_zero,List.getElem?_cons_succ,Nat.reduceSub,Int.reduceMul,Nat.reduceBEq,Nat.reducePow,Int.reducePow,and_false,false_and,eq_self,zc1,zcO _ _ zcB,IX,lim,F_law1,he,c0,n2,n3,mg,n4,fa,h18,b1,e,tw.notes,tw.values,tw.control,tw.pile,tt.notes,tt.values,tt.control,tt.pile,hsm]
    · simp only [LL, F_law1, fb, List.getElem?_cons_zero, List.getElem?_cons_succ, List.drop] at he n2 n3 ⊢
      simp only [zdH,zdI,zdJ,zdK,zdL,zdM,zdN,zdO,zdP,zdQ,zc2,zdR,zdS,zdT,zdU,zc3,zdV,zdW,zdX,zdY,zc4,zfP,zfQ,zfR,zfS,zdZ,zd0,zd1,zd2,zd3,zd4,zd5,zd6,zc5,zc6,zd7,zd8,zd9,zea,zeb,zec,zed,zc7,zc8,zee,zhd,zhe,zc9,zda,zdb,zdc,zdd,zde,zfT,zfU,zfV,zef,zeg,zdf,zdg,zdh,zdi,zeh,zei,zfW,zfX,zfY,zdj,zdk,zdl,zdm,zdn,zfZ,zej,zdo,zek,zf0,zf1,zdp,zdq,zdr,zel,zem,zen,zeo,zds,zdt,zdu,zf2,zf3,zep,zf4,zeq,zf5,zf6,zf7,zf8,zf9,zga,zer,zgb,zgc,zgd,zes,zge,zet,zeu,zgf,zev,zgg,zgh,zgi,zew,zgj,zgk,zgl,zgm,zgn,zgo,zex,zgp,zey,zez,zeA,zeB,zeC,zeD,zdv,zeE,zhf,zgq,zeF,zgr,zeG,zgs,zgt,zgu,zgv,zgw,zgx,zeH,zeI,zeJ,zgy,zgz,zeK,zgA,zeL,zeM,zgB,zgC,zhg,za8,zbM,zce,zbN,zcP,zbo,zbO,zbp,zbP,zal,zbq,zbr,zae,zbs,zbt,zbu,zcf,zbQ,za9,zbv,zbw,zaM,zba,zaU,zcz,zaz,zcg,zaq,zaV,zbR,zch,zbb,zbc,zbS,zbx,zaA,zbT,zbU,zci,zbd,zaf,zar,zas,zaa,zat,zaB,zaW,zbe,zbV,zcj,zbW,zcQ,zby,zbX,zbz,zbY,zam,zbA,zbB,zag,zbC,zbD,zbE,zck,zbZ,zbf,zbF,zbG,zaN,zbg,zaX,zcA,zaC,zcl,zau,zaY,zb0,zcm,zbh,zbi,zb1,zbH,zaD,zb2,zb3,zcn,zbj,zah,zav,zaw,zab,zax,zaE,zaZ,za0,za1,zai,zaj,zb4,zb5,zbk,zb6,zbI,zbJ,zco,zaF,zcR,za2,zaG,zan,za3,zaH,zay,zaO,zak,zaI,zaJ,zac,zaK,zaP,zbl,zb7,zdw,zdx,zcB,za4,zbm,zcS,zdy,zdz,zcC,zdA,zeN,zeO,zdB,zdC,zgD,zeP,zeQ,zgE,zeR,zeS,zgF,zgG,zgH,zgI,zgJ,zeT,zeU,zeV,zeW,zeX,zgK,zeY,zeZ,ze0,ze1,ze2,ze3,zgL,zgM,zgN,ze4,zdD,zgO,ze5,ze6,ze7,zgP,zgQ,zgR,zgS,ze8,zgT,ze9,zfa,zfb,zfc,zfd,zfe,zff,zdE,zcT,zcU,zcV,zcD,zcE,zfg,zfh,zfi,zfj,zfk,zgU,zfl,zfm,zfn,zgV,zgW,zgX,zgY,zgZ,zfo,zfp,zfq,zfr,zg0,zg1,zg2,zg3,zfs,zft,zg4,zfu,zfv,zfw,zfx,zfy,zdF,zfz,zfA,zfB,zfC,zfD,zg5,zfE,zg6,zg7,zg8,zg9,zha,zhb,zfF,zfG,zfH,zfI,zhc,zfJ,zfK,zfL,zfM,zfN,zb8,zcF,zcW,zcG,zfO,zcp,zcH,zcq,zcI,zaL,zcr,zcs,zao,zct,zcu,zcv,zcX,zcJ,zb9,zcw,zcx,zbn,zca,zbK,zdG,za5,zcY,zaQ,zbL,zcK,zcZ,zcb,zcc,zcL,zcy,za6,zcM,zcN,zc0,zcd,zap,zaR,zaS,zad,zaT,za7,F_FlowRun_go,if_true,if_false,zhh,zhi,cond_true,cond_false,List.zip,List.zipWith,List.length_cons,List.length_nil,Option.isSome_some,Bool.false_eq_true,reduceIte,reduceCtorEq,Nat.reduceEqDiff,Nat.reduceAdd,Nat.reduceLeDiff,Int.cast_ofNat_Int,decide_true,decide_false,Bool.and_true,Bool.true_and,Bool.and_false,Bool.false_and,Int.sub_zero,Int.reduceNeg,Nat.reduceLT,and_self,and_true,true_and,Bool.false_or,Bool.or_false,Bool.true_or,Bool.or_true,Bool.not_true,Bool.not_false,Int.natAbs_neg,Int.reduceSub,Int.reduceAdd,Int.reduceToNat,Int.natAbs_zero,Int.natAbs_one,Int.reduceLT,Int.reduceLE,Int.reduceGE,Int.reduceGT,decide_eq_true_eq,List.getElem?_cons_zero,List.getElem?_cons_succ,Nat.reduceSub,Int.reduceMul,Nat.reduceBEq,Nat.reducePow,Int.reducePow,and_false,false_and,eq_self,zc1,zcO _ _ zcB,IX,lim,F_law1,he,c0,n2,n3,mg,n4,fa,h18,b1,e,tw.notes,tw.values,tw.control,tw.pile,tt.notes,tt.values,tt.control,tt.pile,hsm]
end
end Mn.Mg
end
section
set_option maxRecDepth 100000
namespace Mn.Mg
theorem hp_dn (ns : List Int) (r m l st : Int) : ((List.range 27).all fun k => ((HP ns r m l st).get k).isSome) = true := by kernel_rfl
theorem fst_inv {w : Nat} {v : Option MV} (h : fst_ w v) : ∃ r, v = some (.tup (.str w :: r)) := by
  refine bnd h fun x h1 h2 => bnd h1 fun l h3 h4 => bnd h3 fun y h5 h6 => ?_
  obtain rfl := asStr_inv h2
  obtain rfl := asTup_inv h6
  cases l with
  | nil => cases h4
  | cons a r => exact ⟨r, by rw [h5, Option.some.inj h4]⟩
noncomputable def allOk (G : Fz) : List (Int × Row) → Prop
  | [] => True
  | p :: r => p.2.ok G ∧ allOk G r
theorem allOk_mem {G : Fz} : ∀ {l : List (Int × Row)}, allOk G l → ∀ p ∈ l, p.2.ok G
  | x :: l, h, p, hp => by
    cases hp with
    | head => exact h.1
    | tail _ hp => exact allOk_mem h.2 p hp
theorem rOK1 {r m l st : Int} (h1 : 1 ≤ r) (h2 : r < 100) : rOK (F1 r m l st) := fun G h3 h9 => allOk_mem (show allOk G (rows1 r m l st) from ⟨⟨h1, h2⟩, trivial, h3, trivial, trivial, trivial, trivial, trivial, trivial, trivial, trivial, h9, trivial, trivial, trivial, trivial, trivial, trivial, trivial, trivial, trivial⟩)
noncomputable def lawR : MX := .cmp (.lst [.sub (.sub (.att (.loc 408371637742693) 1573827929459) (.cst (.int 0))) (.cst (.int 0)), .sub (.sub (.att (.loc 408371637742693) 1573827929459) (.neg (.cst (.int 1)))) (.cst (.int 0))]) .eq (.lst [.cst (.str 5962296428), .cst (.str 1595202368633)])
noncomputable def lb1 : List MS := fb 4 F_law1.body
theorem bodyX : F_law1.body = [.asg (.nam 23224679) (.lst [.slc (.loc 408345935179892) none (some (.cst (.int 9))), .cst (.int 0)]), .asg (.nam 6013346164) (.call (.glb 108760262707399004654086021485) [.loc 23224679]), .asg (.nam 408371637742693) runX, .asg (.tup [.nam 90484, .nam 6130069113, .nam 1522288389732]) (.tup [.cst (.int 0), .cst (.int 0), .cst (.int 0)]), .for_ (.nam 6248821358) (.call (.glb 1590772524901) [.cst (.int 6)]) lb1, .ret (some lawR)] := rfl
section
variable {A : RA} {F : Fl} {p : Nat} {s : RS} {H K K1 K' : MH} {ns : List Int} {kb : Nat}
noncomputable abbrev Zu (z : Loc) : Prop := z = [] ∨ ∃ t w, z = [(6248821358, t), (1612364868709, w)]
theorem put_turn (P : Pg) (n d : Nat) (a m b : Nat) (v : MV) (z : Loc) (hz : Zu z) (K : MH) : ∃ z', Zt z' ∧ put P (ev P n d) (.nam 6248821358) v (LL A a m b z) K = some (LL A a m b ((6248821358, v) :: z'), K) := by
  rcases hz with rfl | ⟨t, w, rfl⟩
  · exact ⟨[], .inl rfl, zdf _ _⟩
  · exact ⟨[(1612364868709, w)], .inr ⟨w, rfl⟩, zdf _ _⟩
theorem loop_ok (T : Tr F) (hok : rOK F) (hlen : F.rows.length < 1000) : ∀ (k i many at_ bound : Nat) (s : RS) (K : MH), i + k = 5 → BI ns F A s (4 + i) K → itF F many (0, s0) = some (at_, s) → many ≤ bound → bound ≤ 8 * i →
    ∃ a' m' b' s' K', 60 ≤ b' ∧ BI ns F A s' 9 K' ∧ itF F b' (0, s0) = some (a', s') ∧ ∀ (n d : Nat) (z : Loc), Zu z → k + 900 ≤ n → ∃ z', (ev (PgC lf1 lg1) (n) (d + 20)).l (.nam 6248821358) (.rng (i : Int) 1 (k + 1)) lb1 (LL A at_ many bound z) K = some (.nxt, LL A a' m' b' z', K') := by
  intro k
  induction k with
  | zero =>
    intro i many at_ bound s K hi h it hm hb
    obtain rfl : i = 5 := hi
    obtain ⟨a', m', s', K', w, hB, i1, _, _, he⟩ := turn_ok (K := K) (v := 60) T hok hlen ((5 : Nat) : Int) h it hm (by omega)
    refine ⟨a', m', bound + 60, s', K', by omega, hB, i1, fun n d z hz hn => ?_⟩
    obtain ⟨n, rfl⟩ : ∃ n', n = n' + 801 := ⟨n - 801, by omega⟩
    obtain ⟨z', hz', hp⟩ := put_turn (A := A) (PgC lf1 lg1) (n + 800) (d + 20) at_ many bound (.int ((5 : Nat) : Int)) z hz K
    refine ⟨[(6248821358, .int ((5 : Nat) : Int)), (1612364868709, w)], ?_⟩
    rw [zdc, hp, zdH, zfV]
    unfold lb1
    rw [he n d z' hz' (by
      simp only [incX, LL]
      simp only [zdH,zdI,zdJ,zdK,zdL,zdM,zdN,zdO,zdP,zdQ,zc2,zdR,zdS,zdT,zdU,zc3,zdV,zdW,zdX,zdY,zc4,zfP,zfQ,zfR,zfS,zdZ,zd0,zd1,zd2,zd3,zd4,zd5,zd6,zc5,zc6,zd7,zd8,zd9,zea,zeb,zec,zed,zc7,zc8,zee,zhd,zhe,zc9,zda,zdb,zdc,zdd,zde,zfT,zfU,zfV,zef,zeg,zdf,zdg,zdh,zdi,zeh,zei,zfW,zfX,zfY,zdj,zdk,zdl,zdm,zdn,zfZ,zej,zdo,zek,zf0,zf1,zdp,zdq,zdr,zel,zem,zen,zeo,zds,zdt,zdu,zf2,zf3,zep,zf4,zeq,zf5,zf6,zf7,zf8,zf9,zga,zer,zgb,zgc,zgd,zes,zge,zet,zeu,zgf,zev,zgg,zgh,zgi,zew,zgj,zgk,zgl,zgm,zgn,zgo,zex,zgp,zey,zez,zeA,zeB,zeC,zeD,zdv,zeE,zhf,zgq,zeF,zgr,zeG,zgs,zgt,zgu,zgv,zgw,zgx,zeH,zeI,zeJ,zgy,zgz,zeK,zgA,zeL,zeM,zgB,zgC,zhg,za8,zbM,zce,zbN,zcP,zbo,zbO,zbp,zbP,zal,zbq,zbr,zae,zbs,zbt,zbu,zcf,zbQ,za9,zbv,zbw,zaM,zba,zaU,zcz,zaz,zcg,zaq,zaV,zbR,zch,zbb,zbc,zbS,zbx,zaA,zbT,zbU,zci,zbd,zaf,zar,zas,zaa,zat,zaB,zaW,zbe,zbV,zcj,zbW,zcQ,zby,zbX,zbz,zbY,zam,zbA,zbB,zag,zbC,zbD,zbE,zck,zbZ,zbf,zbF,zbG,zaN,zbg,zaX,zcA,zaC,zcl,zau,zaY,zb0,zcm,zbh,zbi,zb1,zbH,zaD,zb2,zb3,zcn,zbj,zah,zav,zaw,zab,zax,zaE,zaZ,za0,za1,zai,zaj,zb4,zb5,zbk,zb6,zbI,zbJ,zco,zaF,zcR,za2,zaG,zan,za3,zaH,zay,zaO,zak,zaI,zaJ,zac,zaK,zaP,zbl,zb7,zdw,zdx,zcB,za4,zbm,zcS,zdy,zdz,zcC,zdA,zeN,zeO,zdB,zdC,zgD,zeP,zeQ,zgE,zeR,zeS,zgF,zgG,zgH,zgI,zgJ,zeT,zeU,zeV,zeW,zeX,zgK,zeY,zeZ,ze0,ze1,ze2,ze3,zgL,zgM,zgN,ze4,zdD,zgO,ze5,ze6,ze7,zgP,zgQ,zgR,zgS,ze8,zgT,ze9,zfa,zfb,zfc,zfd,zfe,zff,zdE,zcT,zcU,zcV,zcD,zcE,zfg,zfh,zfi,zfj,zfk,zgU,zfl,zfm,zfn,zgV,zgW,zgX,zgY,zgZ,zfo,zfp,zfq,zfr,zg0,zg1,zg2,zg3,zfs,zft,zg4,zfu,zfv,zfw,zfx,zfy,zdF,zfz,zfA,zfB,zfC,zfD,zg5,zfE,zg6,zg7,zg8,zg9,zha,zhb,zfF,zfG,zfH,zfI,zhc,zfJ,zfK,zfL,zfM,zfN,zb8,zcF,zcW,zcG,zfO,zcp,zcH,zcq,zcI,zaL,zcr,zcs,zao,zct,zcu,zcv,zcX,zcJ,zb9,zcw,zcx,zbn,zca,zbK,zdG,za5,zcY,zaQ,zbL,zcK,zcZ,zcb,zcc,zcL,zcy,za6,zcM,zcN,zc0,zcd,zap,zaR,zaS,zad,zaT,za7,F_FlowRun_go,if_true,if_false,zhh,zhi,cond_true,cond_false,List.zip,List.zipWith,List.length_cons,List.length_nil,Option.isSome_some,Bool.false_eq_true,reduceIte,reduceCtorEq,Nat.reduceEqDiff,Nat.reduceAdd,Nat.reduceLeDiff,Int.cast_ofNat_Int,decide_true,decide_false,Bool.and_true,Bool.true_and,Bool.and_false,Bool.false_and,Int.sub_zero,Int.reduceNeg,Nat.reduceLT,and_self,and_true,true_and,Bool.false_or,Bool.or_false,Bool.true_or,Bool.or_true,Bool.not_true,Bool.not_false,Int.natAbs_neg,Int.reduceSub,Int.reduceAdd,Int.reduceToNat,Int.natAbs_zero,Int.natAbs_one,Int.reduceLT,Int.reduceLE,Int.reduceGE,Int.reduceGT,decide_eq_true_eq,List.getElem?_cons_zero,List.getElem?_cons_succ,Nat.reduceSub,Int.reduceMul,Nat.reduceBEq,Nat.reducePow,Int.reducePow,and_false,false_and,eq_self,zc1,zcO _ _ zcB,IX,lim]),zdH,zef]
    obtain ⟨n, rfl⟩ : ∃ n', n = n' + 1 := ⟨n - 1, by omega⟩
    exact zdb _ _ _ _
  | succ k ih =>
    intro i many at_ bound s K hi h it hm hb
    have hl : (ns.take 9).length < 100 := by rw [List.length_take]; omega
    have dq := draw_ok (ns.take 9) (4 + i) 9 (by decide) (by omega) K 2 1 (by decide) h.b2 h.b1 hl
    have dr := drawF_range (ns.take 9) (4 + i) 9 (by decide)
    obtain ⟨v, hv⟩ : ∃ v : Nat, drawF (ns.take 9) (4 + i) 9 = (v : Int) := ⟨_, (Int.toNat_of_nonneg dr.1).symm⟩
    rw [hv] at dq dr
    obtain ⟨a', m', s', K', w, hB, i1, i2, hle, he⟩ := turn_ok (K := K) (v := v) T hok hlen (i : Int) h.draw it hm (by omega)
    obtain ⟨a2, m2, b2, s2, K2, h60, hB2, j1, he2⟩ := ih (i + 1) m' a' (bound + v) s' K' (by omega) hB i2 hle (by omega)
    refine ⟨a2, m2, b2, s2, K2, h60, hB2, j1, fun n d z hz hn => ?_⟩
    obtain ⟨n, rfl⟩ : ∃ n', n = n' + 801 := ⟨n - 801, by omega⟩
    obtain ⟨z', hz', hp⟩ := put_turn (A := A) (PgC lf1 lg1) (n + 800) (d + 20) at_ many bound (.int (i : Int)) z hz K
    obtain ⟨z2, he2⟩ := he2 (n + 800) d [(6248821358, .int (i : Int)), (1612364868709, w)] (.inr ⟨_, _, rfl⟩) (by omega)
    have hi5 : (i : Int) < 5 := by omega
    refine ⟨z2, ?_⟩
    rw [zdc, hp, zdH, zfV]
    unfold lb1 at he2 ⊢
    rw [he n d z' hz' (by
      simp only [incX, LL]
      simp only [zdH,zdI,zdJ,zdK,zdL,zdM,zdN,zdO,zdP,zdQ,zc2,zdR,zdS,zdT,zdU,zc3,zdV,zdW,zdX,zdY,zc4,zfP,zfQ,zfR,zfS,zdZ,zd0,zd1,zd2,zd3,zd4,zd5,zd6,zc5,zc6,zd7,zd8,zd9,zea,zeb,zec,zed,zc7,zc8,zee,zhd,zhe,zc9,zda,zdb,zdc,zdd,zde,zfT,zfU,zfV,zef,zeg,zdf,zdg,zdh,zdi,zeh,zei,zfW,zfX,zfY,zdj,zdk,zdl,zdm,zdn,zfZ,zej,zdo,zek,zf0,zf1,zdp,zdq,zdr,zel,zem,zen,zeo,zds,zdt,zdu,zf2,zf3,zep,zf4,zeq,zf5,zf6,zf7,zf8,zf9,zga,zer,zgb,zgc,zgd,zes,zge,zet,zeu,zgf,zev,zgg,zgh,zgi,zew,zgj,zgk,zgl,zgm,zgn,zgo,zex,zgp,zey,zez,zeA,zeB,zeC,zeD,zdv,zeE,zhf,zgq,zeF,zgr,zeG,zgs,zgt,zgu,zgv,zgw,zgx,zeH,zeI,zeJ,zgy,zgz,zeK,zgA,zeL,zeM,zgB,zgC,zhg,za8,zbM,zce,zbN,zcP,zbo,zbO,zbp,zbP,zal,zbq,zbr,zae,zbs,zbt,zbu,zcf,zbQ,za9,zbv,zbw,zaM,zba,zaU,zcz,zaz,zcg,zaq,zaV,zbR,zch,zbb,zbc,zbS,zbx,zaA,zbT,zbU,zci,zbd,zaf,zar,zas,zaa,zat,zaB,zaW,zbe,zbV,zcj,zbW,zcQ,zby,zbX,zbz,zbY,zam,zbA,zbB,zag,zbC,zbD,zbE,zck,zbZ,zbf,zbF,zbG,zaN,zbg,zaX,zcA,zaC,zcl,zau,zaY,zb0,zcm,zbh,zbi,zb1,zbH,zaD,zb2,zb3,zcn,zbj,zah,zav,zaw,zab,zax,zaE,zaZ,za0,za1,zai,zaj,zb4,zb5,zbk,zb6,zbI,zbJ,zco,zaF,zcR,za2,zaG,zan,za3,zaH,zay,zaO,zak,zaI,zaJ,zac,zaK,zaP,zbl,zb7,zdw,zdx,zcB,za4,zbm,zcS,zdy,zdz,zcC,zdA,zeN,zeO,zdB,zdC,zgD,zeP,zeQ,zgE,zeR,zeS,zgF,zgG,zgH,zgI,zgJ,zeT,zeU,zeV,zeW,zeX,zgK,zeY,zeZ,ze0,ze1,ze2,ze3,zgL,zgM,zgN,ze4,zdD,zgO,ze5,ze6,ze7,zgP,zgQ,zgR,zgS,ze8,zgT,ze9,zfa,zfb,zfc,zfd,zfe,zff,zdE,zcT,zcU,zcV,zcD,zcE,zfg,zfh,zfi,zfj,zfk,zgU,zfl,zfm,zfn,zgV,zgW,zgX,zgY,zgZ,zfo,zfp,zfq,zfr,zg0,zg1,zg2,zg3,zfs,zft,zg4,zfu,zfv,zfw,zfx,zfy,zdF,zfz,zfA,zfB,zfC,zfD,zg5,zfE,zg6,zg7,zg8,zg9,zha,zhb,zfF,zfG,zfH,zfI,zhc,zfJ,zfK,zfL,zfM,zfN,zb8,zcF,zcW,zcG,zfO,zcp,zcH,zcq,zcI,zaL,zcr,zcs,zao,zct,zcu,zcv,zcX,zcJ,zb9,zcw,zcx,zbn,zca,zbK,zdG,za5,zcY,zaQ,zbL,zcK,zcZ,zcb,zcc,zcL,zcy,za6,zcM,zcN,zc0,zcd,zap,zaR,zaS,zad,zaT,za7,F_FlowRun_go,if_true,if_false,zhh,zhi,cond_true,cond_false,List.zip,List.zipWith,List.length_cons,List.length_nil,Option.isSome_some,Bool.false_eq_true,reduceIte,reduceCtorEq,Nat.reduceEqDiff,Nat.reduceAdd,Nat.reduceLeDiff,Int.cast_ofNat_Int,decide_true,decide_false,Bool.and_true,Bool.true_and,Bool.and_false,Bool.false_and,Int.sub_zero,Int.reduceNeg,Nat.reduceLT,and_self,and_true,true_and,Bool.false_or,Bool.or_false,Bool.true_or,Bool.or_true,Bool.not_true,Bool.not_false,Int.natAbs_neg,Int.reduceSub,Int.reduceAdd,Int.reduceToNat,Int.natAbs_zero,Int.natAbs_one,Int.reduceLT,Int.reduceLE,Int.reduceGE,Int.reduceGT,decide_eq_true_eq,List.getElem?_cons_zero,List.getElem?_cons_succ,Nat.reduceSub,Int.reduceMul,Nat.reduceBEq,Nat.reducePow,Int.reducePow,and_false,false_and,eq_self,zc1,zcO _ _ zcB,IX,lim,hi5,g1_F__law_draw,f1_F__law_draw,dq]),zdH,zef]
    exact he2
theorem start_ok (hl : ns.length < 64) {K0 : MH} (n d : Nat) (r : List MS) (e1 : (ev (PgC lf1 lg1) (n + 198) (d + 20)).c (.fn 108760262707399004654086021485) [.ref 2] (HS1 ns) = some (.ref 17, K0)) (e2 : (ev (PgC lf1 lg1) (n + 199) (d + 20)).x runX [(408345935179892, .ref 0), (23224679, .ref 2), (6013346164, .ref 17)] K0 = some (.ref A.r, K)) :
    stmts (ev (PgC lf1 lg1) (n + 200) (d + 20)) (F_law1.body.take 4 ++ r) [(408345935179892, .ref 0)] (HI ns) = stmts (ev (PgC lf1 lg1) (n + 200) (d + 20)) r (LL A 0 0 0 []) K := by
  have g0 : (HI ns).get 0 = some (.frz (ns.map .int)) := rfl
  have b1 : (ns.map MV.int).length ≤ 1048576 := by rw [List.length_map]; omega
  have b3 : ((ns.take 9).map MV.int).length ≤ 1048576 := by rw [List.length_map, List.length_take]; omega
  have h1 : (HI ns).next = 1 := rfl
  have ht : (ns.map MV.int).take 9 = (ns.take 9).map .int := List.map_take.symm
  have hs : ((HI ns).new (.list ((ns.take 9).map .int))).new (.list [.ref 1, .int 0]) = HS1 ns := rfl
  rw [bodyX]
  simp only [List.take, List.cons_append, List.nil_append, LL]
  simp only [zdH,zdI,zdJ,zdK,zdL,zdM,zdN,zdO,zdP,zdQ,zc2,zdR,zdS,zdT,zdU,zc3,zdV,zdW,zdX,zdY,zc4,zfP,zfQ,zfR,zfS,zdZ,zd0,zd1,zd2,zd3,zd4,zd5,zd6,zc5,zc6,zd7,zd8,zd9,zea,zeb,zec,zed,zc7,zc8,zee,zhd,zhe,zc9,zda,zdb,zdc,zdd,zde,zfT,zfU,zfV,zef,zeg,zdf,zdg,zdh,zdi,zeh,zei,zfW,zfX,zfY,zdj,zdk,zdl,zdm,zdn,zfZ,zej,zdo,zek,zf0,zf1,zdp,zdq,zdr,zel,zem,zen,zeo,zds,zdt,zdu,zf2,zf3,zep,zf4,zeq,zf5,zf6,zf7,zf8,zf9,zga,zer,zgb,zgc,zgd,zes,zge,zet,zeu,zgf,zev,zgg,zgh,zgi,zew,zgj,zgk,zgl,zgm,zgn,zgo,zex,zgp,zey,zez,zeA,zeB,zeC,zeD,zdv,zeE,zhf,zgq,zeF,zgr,zeG,zgs,zgt,zgu,zgv,zgw,zgx,zeH,zeI,zeJ,zgy,zgz,zeK,zgA,zeL,zeM,zgB,zgC,zhg,za8,zbM,zce,zbN,zcP,zbo,zbO,zbp,zbP,zal,zbq,zbr,zae,zbs,zbt,zbu,zcf,zbQ,za9,zbv,zbw,zaM,zba,zaU,zcz,zaz,zcg,zaq,zaV,zbR,zch,zbb,zbc,zbS,zbx,zaA,zbT,zbU,zci,zbd,zaf,zar,zas,zaa,zat,zaB,zaW,zbe,zbV,zcj,zbW,zcQ,zby,zbX,zbz,zbY,zam,zbA,zbB,zag,zbC,zbD,zbE,zck,zbZ,zbf,zbF,zbG,zaN,zbg,zaX,zcA,zaC,zcl,zau,zaY,zb0,zcm,zbh,zbi,zb1,zbH,zaD,zb2,zb3,zcn,zbj,zah,zav,zaw,zab,zax,zaE,zaZ,za0,za1,zai,zaj,zb4,zb5,zbk,zb6,zbI,zbJ,zco,zaF,zcR,za2,zaG,zan,za3,zaH,zay,zaO,zak,zaI,zaJ,zac,zaK,zaP,zbl,zb7,zdw,zdx,zcB,za4,zbm,zcS,zdy,zdz,zcC,zdA,zeN,zeO,zdB,zdC,zgD,zeP,zeQ,zgE,zeR,zeS,zgF,zgG,zgH,zgI,zgJ,zeT,zeU,zeV,zeW,zeX,zgK,zeY,zeZ,ze0,ze1,ze2,ze3,zgL,zgM,zgN,ze4,zdD,zgO,ze5,ze6,ze7,zgP,zgQ,zgR,zgS,ze8,zgT,ze9,zfa,zfb,zfc,zfd,zfe,zff,zdE,zcT,zcU,zcV,zcD,zcE,zfg,zfh,zfi,zfj,zfk,zgU,zfl,zfm,zfn,zgV,zgW,zgX,zgY,zgZ,zfo,zfp,zfq,zfr,zg0,zg1,zg2,zg3,zfs,zft,zg4,zfu,zfv,zfw,zfx,zfy,zdF,zfz,zfA,zfB,zfC,zfD,zg5,zfE,zg6,zg7,zg8,zg9,zha,zhb,zfF,zfG,zfH,zfI,zhc,zfJ,zfK,zfL,zfM,zfN,zb8,zcF,zcW,zcG,zfO,zcp,zcH,zcq,zcI,zaL,zcr,zcs,zao,zct,zcu,zcv,zcX,zcJ,zb9,zcw,zcx,zbn,zca,zbK,zdG,za5,zcY,zaQ,zbL,zcK,zcZ,zcb,zcc,zcL,zcy,za6,zcM,zcN,zc0,zcd,zap,zaR,zaS,zad,zaT,za7,F_FlowRun_go,if_true,if_false,zhh,zhi,cond_true,cond_false,List.zip,List.zipWith,List.length_cons,List.length_nil,Option.isSome_some,Bool.false_eq_true,reduceIte,reduceCtorEq,Nat.reduceEqDiff,Nat.reduceAdd,Nat.reduceLeDiff,Int.cast_ofNat_Int,decide_true,decide_false,Bool.and_true,Bool.true_and,Bool.and_false,Bool.false_and,Int.sub_zero,Int.reduceNeg,Nat.reduceLT,and_self,and_true,true_and,Bool.false_or,Bool.or_false,Bool.true_or,Bool.or_true,Bool.not_true,Bool.not_false,Int.natAbs_neg,Int.reduceSub,Int.reduceAdd,Int.reduceToNat,Int.natAbs_zero,Int.natAbs_one,Int.reduceLT,Int.reduceLE,Int.reduceGE,Int.reduceGT,decide_eq_true_eq,List.getElem?_cons_zero,List.getElem?_cons_succ,Nat.reduceSub,Int.reduceMul,Nat.reduceBEq,Nat.reducePow,Int.reducePow,and_false,false_and,eq_self,zc1,zcO _ _ zcB,IX,lim,g0,b1,b3,h1,ht,n_n,hs,g1_F__law_program,f1_F__law_program,e1,e2]
theorem for_ok (n d : Nat) (r : List MS) {L L' : Loc} (e : (ev (PgC lf1 lg1) (n + 99) (d + 2)).l (.nam 6248821358) (.rng 0 1 6) lb1 L K = some (.nxt, L', K')) : stmts (ev (PgC lf1 lg1) (n + 100) (d + 2)) (.for_ (.nam 6248821358) (.call (.glb 1590772524901) [.cst (.int 6)]) lb1 :: r) L K = stmts (ev (PgC lf1 lg1) (n + 100) (d + 2)) r L' K' := by
  simp only [zdH,zdI,zdJ,zdK,zdL,zdM,zdN,zdO,zdP,zdQ,zc2,zdR,zdS,zdT,zdU,zc3,zdV,zdW,zdX,zdY,zc4,zfP,zfQ,zfR,zfS,zdZ,zd0,zd1,zd2,zd3,zd4,zd5,zd6,zc5,zc6,zd7,zd8,zd9,zea,zeb,zec,zed,zc7,zc8,zee,zhd,zhe,zc9,zda,zdb,zdc,zdd,zde,zfT,zfU,zfV,zef,zeg,zdf,zdg,zdh,zdi,zeh,zei,zfW,zfX,zfY,zdj,zdk,zdl,zdm,zdn,zfZ,zej,zdo,zek,zf0,zf1,zdp,zdq,zdr,zel,zem,zen,zeo,zds,zdt,zdu,zf2,zf3,zep,zf4,zeq,zf5,zf6,zf7,zf8,zf9,zga,zer,zgb,zgc,zgd,zes,zge,zet,zeu,zgf,zev,zgg,zgh,zgi,zew,zgj,zgk,zgl,zgm,zgn,zgo,zex,zgp,zey,zez,zeA,zeB,zeC,zeD,zdv,zeE,zhf,zgq,zeF,zgr,zeG,zgs,zgt,zgu,zgv,zgw,zgx,zeH,zeI,zeJ,zgy,zgz,zeK,zgA,zeL,zeM,zgB,zgC,zhg,za8,zbM,zce,zbN,zcP,zbo,zbO,zbp,zbP,zal,zbq,zbr,zae,zbs,zbt,zbu,zcf,zbQ,za9,zbv,zbw,zaM,zba,zaU,zcz,zaz,zcg,zaq,zaV,zbR,zch,zbb,zbc,zbS,zbx,zaA,zbT,zbU,zci,zbd,zaf,zar,zas,zaa,zat,zaB,zaW,zbe,zbV,zcj,zbW,zcQ,zby,zbX,zbz,zbY,zam,zbA,zbB,zag,zbC,zbD,zbE,zck,zbZ,zbf,zbF,zbG,zaN,zbg,zaX,zcA,zaC,zcl,zau,zaY,zb0,zcm,zbh,zbi,zb1,zbH,zaD,zb2,zb3,zcn,zbj,zah,zav,zaw,zab,zax,zaE,zaZ,za0,za1,zai,zaj,zb4,zb5,zbk,zb6,zbI,zbJ,zco,zaF,zcR,za2,zaG,zan,za3,zaH,zay,zaO,zak,zaI,zaJ,zac,zaK,zaP,zbl,zb7,zdw,zdx,zcB,za4,zbm,zcS,zdy,zdz,zcC,zdA,zeN,zeO,zdB,zdC,zgD,zeP,zeQ,zgE,zeR,zeS,zgF,zgG,zgH,zgI,zgJ,zeT,zeU,zeV,zeW,zeX,zgK,zeY,zeZ,ze0,ze1,ze2,ze3,zgL,zgM,zgN,ze4,zdD,zgO,ze5,ze6,ze7,zgP,zgQ,zgR,zgS,ze8,zgT,ze9,zfa,zfb,zfc,zfd,zfe,zff,zdE,zcT,zcU,zcV,zcD,zcE,zfg,zfh,zfi,zfj,zfk,zgU,zfl,zfm,zfn,zgV,zgW,zgX,zgY,zgZ,zfo,zfp,zfq,zfr,zg0,zg1,zg2,zg3,zfs,zft,zg4,zfu,zfv,zfw,zfx,zfy,zdF,zfz,zfA,zfB,zfC,zfD,zg5,zfE,zg6,zg7,zg8,zg9,zha,zhb,zfF,zfG,zfH,zfI,zhc,zfJ,zfK,zfL,zfM,zfN,zb8,zcF,zcW,zcG,zfO,zcp,zcH,zcq,zcI,zaL,zcr,zcs,zao,zct,zcu,zcv,zcX,zcJ,zb9,zcw,zcx,zbn,zca,zbK,zdG,za5,zcY,zaQ,zbL,zcK,zcZ,zcb,zcc,zcL,zcy,za6,zcM,zcN,zc0,zcd,zap,zaR,zaS,zad,zaT,za7,F_FlowRun_go,if_true,if_false,zhh,zhi,cond_true,cond_false,List.zip,List.zipWith,List.length_cons,List.length_nil,Option.isSome_some,Bool.false_eq_true,reduceIte,reduceCtorEq,Nat.reduceEqDiff,Nat.reduceAdd,Nat.reduceLeDiff,Int.cast_ofNat_Int,decide_true,decide_false,Bool.and_true,Bool.true_and,Bool.and_false,Bool.false_and,Int.sub_zero,Int.reduceNeg,Nat.reduceLT,and_self,and_true,true_and,Bool.false_or,Bool.or_false,Bool.true_or,Bool.or_true,Bool.not_true,Bool.not_false,Int.natAbs_neg,Int.reduceSub,Int.reduceAdd,Int.reduceToNat,Int.natAbs_zero,Int.natAbs_one,Int.reduceLT,Int.reduceLE,Int.reduceGE,Int.reduceGT,decide_eq_true_eq,List.getElem?_cons_zero,List.getElem?_cons_succ,Nat.reduceSub,Int.reduceMul,Nat.reduceBEq,Nat.reducePow,Int.reducePow,and_false,false_and,eq_self,zc1,zcO _ _ zcB,IX,lim,e]
theorem ret_ok (h : BI ns F A s kb K) (h0 : fst_ 5962296428 (idx s.notes 0)) (h1 : fst_ 1595202368633 s.notes.getLast?) (n d a m b : Nat) (z : Loc) : ∃ L K', stmts (ev (PgC lf1 lg1) (n + 100) (d + 2)) [.ret (some lawR)] (LL A a m b z) K = some (.ret (.bool true), L, K') := by
  obtain ⟨p, S, f, _⟩ := h.si
  have tt := S.at f
  obtain ⟨r0, h0⟩ := fst_inv h0
  obtain ⟨r1, h1⟩ := fst_inv h1
  have na := tt.na
  obtain ⟨K1, hK1⟩ : ∃ K1, K.new (.list [.str 5962296428, .str 1595202368633]) = K1 := ⟨_, rfl⟩
  have x1 : K1.next = K.next + 1 := hK1 ▸ rfl
  have q1 : K1.get K.next = some (.list [.str 5962296428, .str 1595202368633]) := hK1 ▸ new_eq _ _
  obtain ⟨K2, hK2⟩ : ∃ K2, K1.new (.list [.str 5962296428, .str 1595202368633]) = K2 := ⟨_, rfl⟩
  have q2 : K2.get (K.next + 1) = some (.list [.str 5962296428, .str 1595202368633]) := by rw [← hK2, ← x1]; exact new_eq _ _
  have q3 : K2.get K.next = some (.list [.str 5962296428, .str 1595202368633]) := by rw [← hK2, new_ne _ _ _ (by omega)]; exact q1
  have hne : ¬ (K.next = K.next + 1) := by omega
  refine ⟨LL A a m b z, K2, ?_⟩
  simp only [lawR, LL]
  simp only [zdH,zdI,zdJ,zdK,zdL,zdM,zdN,zdO,zdP,zdQ,zc2,zdR,zdS,zdT,zdU,zc3,zdV,zdW,zdX,zdY,zc4,zfP,zfQ,zfR,zfS,zdZ,zd0,zd1,zd2,zd3,zd4,zd5,zd6,zc5,zc6,zd7,zd8,zd9,zea,zeb,zec,zed,zc7,zc8,zee,zhd,zhe,zc9,zda,zdb,zdc,zdd,zde,zfT,zfU,zfV,zef,zeg,zdf,zdg,zdh,zdi,zeh,zei,zfW,zfX,zfY,zdj,zdk,zdl,zdm,zdn,zfZ,zej,zdo,zek,zf0,zf1,zdp,zdq,zdr,zel,zem,zen,zeo,zds,zdt,zdu,zf2,zf3,zep,zf4,zeq,zf5,zf6,zf7,zf8,zf9,zga,zer,zgb,zgc,zgd,zes,zge,zet,zeu,zgf,zev,zgg,zgh,zgi,zew,zgj,zgk,zgl,zgm,zgn,zgo,zex,zgp,zey,zez,zeA,zeB,zeC,zeD,zdv,zeE,zhf,zgq,zeF,zgr,zeG,zgs,zgt,zgu,zgv,zgw,zgx,zeH,zeI,zeJ,zgy,zgz,zeK,zgA,zeL,zeM,zgB,zgC,zhg,za8,zbM,zce,zbN,zcP,zbo,zbO,zbp,zbP,zal,zbq,zbr,zae,zbs,zbt,zbu,zcf,zbQ,za9,zbv,zbw,zaM,zba,zaU,zcz,zaz,zcg,zaq,zaV,zbR,zch,zbb,zbc,zbS,zbx,zaA,zbT,zbU,zci,zbd,zaf,zar,zas,zaa,zat,zaB,zaW,zbe,zbV,zcj,zbW,zcQ,zby,zbX,zbz,zbY,zam,zbA,zbB,zag,zbC,zbD,zbE,zck,zbZ,zbf,zbF,zbG,zaN,zbg,zaX,zcA,zaC,zcl,zau,zaY,zb0,zcm,zbh,zbi,zb1,zbH,zaD,zb2,zb3,zcn,zbj,zah,zav,zaw,zab,zax,zaE,zaZ,za0,za1,zai,zaj,zb4,zb5,zbk,zb6,zbI,zbJ,zco,zaF,zcR,za2,zaG,zan,za3,zaH,zay,zaO,zak,zaI,zaJ,zac,zaK,zaP,zbl,zb7,zdw,zdx,zcB,za4,zbm,zcS,zdy,zdz,zcC,zdA,zeN,zeO,zdB,zdC,zgD,zeP,zeQ,zgE,zeR,zeS,zgF,zgG,zgH,zgI,zgJ,zeT,zeU,zeV,zeW,zeX,zgK,zeY,zeZ,ze0,ze1,ze2,ze3,zgL,zgM,zgN,ze4,zdD,zgO,ze5,ze6,ze7,zgP,zgQ,zgR,zgS,ze8,zgT,ze9,zfa,zfb,zfc,zfd,zfe,zff,zdE,zcT,zcU,zcV,zcD,zcE,zfg,zfh,zfi,zfj,zfk,zgU,zfl,zfm,zfn,zgV,zgW,zgX,zgY,zgZ,zfo,zfp,zfq,zfr,zg0,zg1,zg2,zg3,zfs,zft,zg4,zfu,zfv,zfw,zfx,zfy,zdF,zfz,zfA,zfB,zfC,zfD,zg5,zfE,zg6,zg7,zg8,zg9,zha,zhb,zfF,zfG,zfH,zfI,zhc,zfJ,zfK,zfL,zfM,zfN,zb8,zcF,zcW,zcG,zfO,zcp,zcH,zcq,zcI,zaL,zcr,zcs,zao,zct,zcu,zcv,zcX,zcJ,zb9,zcw,zcx,zbn,zca,zbK,zdG,za5,zcY,zaQ,zbL,zcK,zcZ,zcb,zcc,zcL,zcy,za6,zcM,zcN,zc0,zcd,zap,zaR,zaS,zad,zaT,za7,F_FlowRun_go,if_true,if_false,zhh,zhi,cond_true,cond_false,List.zip,List.zipWith,List.length_cons,List.length_nil,Option.isSome_some,Bool.false_eq_true,reduceIte,reduceCtorEq,Nat.reduceEqDiff,Nat.reduceAdd,Nat.reduceLeDiff,Int.cast_ofNat_Int,decide_true,decide_false,Bool.and_true,Bool.true_and,Bool.and_false,Bool.false_and,Int.sub_zero,Int.reduceNeg,Nat.reduceLT,and_self,and_true,true_and,Bool.false_or,Bool.or_false,Bool.true_or,Bool.or_true,Bool.not_true,Bool.not_false,Int.natAbs_neg,Int.reduceSub,Int.reduceAdd,Int.reduceToNat,Int.natAbs_zero,Int.natAbs_one,Int.reduceLT,Int.reduceLE,Int.reduceGE,Int.reduceGT,decide_eq_true_eq,List.getElem?_cons_zero,List.getElem?_cons_succ,Nat.reduceSub,Int.reduceMul,Nat.reduceBEq,Nat.reducePow,Int.reducePow,and_false,false_and,eq_self,zc1,zcO _ _ zcB,IX,lim,tt.notes,na,h0,h1,hK1,x1,hK2,q2,q3,hne]
end
noncomputable def E1 : Ev := ev (PgC lf1 lg1) 2000 50
theorem law1_true (ns : List Int) (hl : ns.length < 64) : ∃ H', callF (PgC lf1 lg1) E1 23880055 [.ref 0] (HI ns) = some (.bool true, H') := by
  have d0 := drawF_range (ns.take 9) 0 2 (by decide)
  have d1 := drawF_range (ns.take 9) 1 2 (by decide)
  have d2 := drawF_range (ns.take 9) 2 3 (by decide)
  have d3 := drawF_range (ns.take 9) 3 2 (by decide)
  have e1 := prog_ok ns
  unfold drw at e1
  have m2 : ∀ v : Int, 0 ≤ v ∧ v < 2 → 1 + v ∈ [(1 : Int), 2] ∧ 2 + v ∈ [(2 : Int), 3] := fun v h => by
    rcases (by omega : v = 0 ∨ v = 1) with rfl | rfl <;> decide
  have m3 : ∀ v : Int, 0 ≤ v ∧ v < 3 → 4 + v ∈ [(4 : Int), 5, 6] := fun v h => by
    rcases (by omega : v = 0 ∨ v = 1 ∨ v = 2) with rfl | rfl | rfl <;> decide
  have al := all_ok _ (m2 _ d0).1 _ (m2 _ d1).1 _ (m3 _ d2) _ (m2 _ d3).2
  generalize drawF (ns.take 9) 0 2 = v0 at d0 al e1
  generalize drawF (ns.take 9) 1 2 = v1 at al e1
  generalize drawF (ns.take 9) 2 3 = v2 at al e1
  generalize drawF (ns.take 9) 3 2 = v3 at al e1
  obtain ⟨F, hF⟩ : ∃ F, F1 (1 + v0) (1 + v1) (4 + v2) (2 + v3) = F := ⟨_, rfl⟩
  have ff : FF F (HP ns (1 + v0) (1 + v1) (4 + v2) (2 + v3)) := ⟨Nat.le_of_eq (hp_n ..).symm, hp_17 .., hp_16 .., hF ▸ hp_18 .., hp_19 .., hp_21 .., hp_3 .., hp_9 ..⟩
  have dn := hp_dn ns (1 + v0) (1 + v1) (4 + v2) (2 + v3)
  have k1 := hp_1 ns (1 + v0) (1 + v1) (4 + v2) (2 + v3)
  have k2 := hp_2 ns (1 + v0) (1 + v1) (4 + v2) (2 + v3)
  have hlen : F.rows.length < 1000 := by rw [← hF]; exact (by decide : 20 < 1000)
  have hok : rOK F := hF ▸ rOK1 (by omega) (by omega)
  have al := (Bool.and_eq_true _ _).mp al
  rw [hF] at al
  have T : Tr F := chk_ok F 105 _ al.1
  generalize HP ns (1 + v0) (1 + v1) (4 + v2) (2 + v3) = K0 at e1 ff dn k1 k2
  have nx := ff.nx
  obtain ⟨K, A, p, g, S, f, _, bd, n1⟩ := mk_run ff hok hlen
  have hB : BI ns F A s0 (4 + 0) K := ⟨ff.keep g, ⟨p, S, f, by omega, by omega, by omega, by omega⟩, g.get _ _ (by omega) k1, g.get _ _ (by omega) k2, fun k hk => by
    obtain ⟨o, ho⟩ := Option.isSome_iff_exists.mp (List.all_eq_true.mp dn k (List.mem_range.mpr hk))
    exact ⟨o, g.get _ _ (by omega) ho⟩⟩
  obtain ⟨a', m', b', s', K', h60, hB', j1, lp⟩ := loop_ok T hok hlen 5 0 0 0 0 s0 K rfl hB rfl (Nat.le_refl _) (Nat.le_refl _)
  obtain ⟨z', lp⟩ := lp 1999 30 [] (.inl rfl) (by omega)
  have fn := al.2
  unfold fin at fn
  cases h6 : itF F 60 (0, s0) with
  | none => rw [h6] at fn; cases fn
  | some q =>
    rw [h6] at fn
    have fn := (Bool.and_eq_true _ _).mp fn
    have fn1 := (Bool.and_eq_true _ _).mp fn.1
    have e6 : itF F (60 + (b' - 60)) (0, s0) = some q := by
      rw [itF_add, h6, zdH]
      exact itF_end F (of_decide_eq_true fn1.1) _
    rw [show 60 + (b' - 60) = b' by omega, j1] at e6
    obtain rfl := Option.some.inj e6
    obtain ⟨L2, K2, rt⟩ := ret_ok hB' (of_decide_eq_true fn1.2) (of_decide_eq_true fn.2) 1900 48 a' m' b' z'
    refine ⟨K2, ?_⟩
    show callF (PgC lf1 lg1) (ev (PgC lf1 lg1) 2000 50) _ _ _ = _
    rw [callF_ _ _ _ f1_F_law rfl rfl, ← List.take_append_drop 4 F_law1.body]
    have st := start_ok (A := A) (K := K) hl 1800 30 (F_law1.body.drop 4) e1 (n1 1799 41 _ rfl)
    show (stmts (ev (PgC lf1 lg1) 2000 50) (F_law1.body.take 4 ++ F_law1.body.drop 4) [(408345935179892, .ref 0)] (HI ns)).bind krF = _
    have st' : stmts (ev (PgC lf1 lg1) 2000 50) (F_law1.body.take 4 ++ F_law1.body.drop 4) [(408345935179892, .ref 0)] (HI ns) = _ := st.trans ((congrArg (fun z => stmts (ev (PgC lf1 lg1) 2000 50) z (LL A 0 0 0 []) K) (congrArg (List.drop 4) bodyX)).trans ((for_ok 1900 48 [.ret (some lawR)] lp).trans rt))
    rw [st']
    rfl
end Mn.Mg
end
section
set_option maxRecDepth 100000
namespace Mn
open PySem PySem.W PyProof.Rows PySem.Calls
noncomputable def fdOf (K : Frag) (a : Addr) : Option FuncData := match K.lookup a with
  | some ⟨_, _, .func fd, _⟩ => some fd
  | _ => none
noncomputable def bodyOf (fd : FuncData) : List PySem.Stmt := match fd.body with
  | .stmts b => b
  | _ => []
noncomputable def isStmts (fd : FuncData) : Bool := match fd.body with
  | .stmts _ => true
  | _ => false
noncomputable def namesOf (fd : FuncData) : List Str := fd.params.args.map (·.arg)
noncomputable abbrev FdOk (K : Frag) (a : Addr) (fd : FuncData) : Prop :=
  codeIn K fd.code fd.qualname = true ∧ isStmts fd = true ∧ fd.closure = [] ∧ fd.globals = mainGlobals ∧ fd.builtins = builtinsNs ∧ fd.scope.isCoroutine = false ∧ fd.scope.isGenerator = false ∧ fd.scope.kind = .function ∧
    (∀ x ∈ namesOf fd, low x = true ∧ (fd.scope.names.lookup x = some .local ∨ fd.scope.names.lookup x = some .cell)) ∧ (namesOf fd).Nodup ∧ (fd.scope.names.map (·.1)).Nodup ∧ keepIn K (.ref a) = true ∧ fnIn K a = true
noncomputable def fnChk (K : Frag) (a : Addr) : Bool := match fdOf K a with
  | some fd => decide (FdOk K a fd)
  | none => false
noncomputable def trK (K : Frag) (a : Addr) : Option MF := (fdOf K a).bind fun fd => trF fd.params (bodyOf fd) fd.scope
noncomputable def BindOk (K : Frag) (a : Addr) : Prop := ∀ fd, fdOf K a = some fd → ∀ vals : List Value, vals.length = (namesOf fd).length → ∀ S, peek K S (bindArgs fd ⟨vals, []⟩) = some ((namesOf fd).zip vals)
theorem fdOf_get {K : Frag} {a : Addr} {fd : FuncData} (e : fdOf K a = some fd) : ∃ o, K.lookup a = some o ∧ o.data = .func fd := by
  unfold fdOf at e
  split at e
  · rename_i q
    injection e with e
    rw [← e]
    exact ⟨_, q, rfl⟩
  · cases e
theorem stm_of {fd : FuncData} (h : isStmts fd = true) : fd.body = .stmts (bodyOf fd) := by
  unfold isStmts at h
  unfold bodyOf
  split at h
  · rename_i q; rw [q]
  · cases h
theorem fnOk_of {K : Frag} {B : Heap} {D : Ad} {f : Nat} {F : MF} (X : K.In B) (h : fnChk K (D.fa f) = true) (t : trK K (D.fa f) = some F) (b : BindOk K (D.fa f)) :
    (∃ o fd body names, FnOk B D f F o fd body names) ∧ keepIn K (.ref (D.fa f)) = true ∧ fnIn K (D.fa f) = true := by
  refine bnd t fun fd e t => bnd t fun bd t1 t2 => ?_
  unfold fnChk at h
  rw [e] at h
  obtain ⟨h1, h2, h3, h4, h5, h6, h7, h8, h9, h10, h11, h12, h13⟩ := of_decide_eq_true h
  obtain ⟨o, q, qd⟩ := fdOf_get e
  injection t2 with t2
  exact ⟨⟨o, fd, bodyOf fd, namesOf fd, X _ _ q, qd, codeRec_of X h1, stm_of h2, h3, h4, h5, h6, h7, h8, by rw [← t2]; exact t1, by rw [← t2]; exact (List.map_map (g := code) (f := (·.arg)) (l := fd.params.args)).symm, fun x hx => low_ok (h9 x hx).1, h10, fun x hx => (h9 x hx).2, h11, fun s hk vals hv => kp_binds (X.keeps hk) (b fd e vals hv)⟩, h12, h13⟩
end Mn
end
section
set_option maxRecDepth 100000
namespace Mn
open PySem PySem.W PyProof.Rows PySem.Calls
section
variable {prog : Program} {w : World} {K : Frag} {B : Heap} {D : Ad} {P : Pg}
variable {E : Ev} {d : Nat} {A : Around} {Er : Value → Shared → Prop} {s : Shared} {adr : List Addr} {H H' : MH}
noncomputable def H0 (ns : List Int) : MH := ⟨1, fun k => if k = 0 then some (.frz (ns.map .int)) else none⟩
theorem law_entry (C : Cx prog w K s.heap D P) {N d : Nat} {f : Nat} {ns : List Int} {vals : List Value} {script : Addr} {Q : Value → Shared → Prop} (e : callF P (ev P N d) f [.ref 0] (H0 ns) = some (.bool true, H')) (hd : A.depth + 4 * d + 6 < recursionLimit) (hu : A.units + 16 * d + 110 < cLine) (hh : A.handled = none)
    (hl : s.heap.IsList script vals.toArray) (hi : IntsAre vals ns) (hQ : ∀ h' t, (∀ b o, s.heap.get? b = some o → h'.get? b = some o) → Q (.bool true) ⟨h', s.gens, s.drawn, t, s.os⟩) :
    wpAny (model prog w) A (call (.ref (D.fa f)) [.ref script]) Q Er s := by
  have S : SR prog w s.heap D [script] (H0 ns) s.heap := by
    refine ⟨fun _ _ e => e, rfl, by simp, fun k o e => ?_, fun k hk => ?_, ?_⟩
    · unfold H0 at e
      dsimp only at e
      split at e
      · rename_i q
        subst q
        injection e with e
        subst e
        exact ⟨script, rfl, .frz _ _ vals.toArray hl (ints_vrs hi)⟩
      · cases e
    · unfold H0 at hk ⊢
      dsimp only at hk ⊢
      rw [if_pos (by omega)]; rfl
    · obtain ⟨mc, ⟨o, _, _, e, _⟩, _⟩ := C.nolimit
      exact ⟨o, e⟩
  refine wpAny_call (fn_core C (sound C N d).2.2.2 e hd hu hh S (.cons (.ref 0 script rfl) .nil) fun _ _ _ adr' h' t u _ _ _ S' x => ?_)
  obtain rfl : u = .bool true := x.inv
  exact hQ h' t S'.sr.base
end
theorem lkN_mem {α : Type} {n : Nat} {v : α} : ∀ {l : List (Nat × α)}, lkN n l = some v → (n, v) ∈ l
  | [], h => by cases h
  | (k, a) :: r, h => by
    unfold lkN at h
    split at h
    · rename_i q
      cases h
      rw [Nat.eq_of_beq_eq_true q]
      exact .head _
    · exact .tail _ (lkN_mem h)
noncomputable def adOf (fa ca : List (Nat × Addr)) : Ad := ⟨fun f => (lkN f fa).getD 0, fun c => (lkN c ca).getD 0⟩
noncomputable def strsChk : List MV → List Value → Bool
  | [], [] => true
  | .str n :: vs, .str s _ :: us => low s && Nat.beq n (code s) && strsChk vs us
  | _, _ => false
theorem strs_ok {D : Ad} {h : Heap} : ∀ {vs : List MV} {us : List Value}, strsChk vs us = true → VRs D [] h vs us
  | [], [], _ => .nil
  | .str n :: vs, .str s t :: us, e => by
    unfold strsChk at e
    rw [Bool.and_eq_true, Bool.and_eq_true] at e
    exact .cons (.str s t (low_ok e.1.1) n (Nat.eq_of_beq_eq_true e.1.2)) (strs_ok e.2)
  | .str _ :: _, [], e => by cases e
  | [], _ :: _, e => by cases e
noncomputable def glbChk (K : Frag) (D : Ad) : String × MV → Bool
  | (z, .fn f) => low (Str.ofString z) && nsIn K mainGlobals (Str.ofString z) == some (some (.ref (D.fa f)))
  | (z, .cls c) => low (Str.ofString z) && nsIn K mainGlobals (Str.ofString z) == some (some (.ref (D.ca c)))
  | (z, .bi b) => low (Str.ofString z) && nsIn K mainGlobals (Str.ofString z) == some none && bootBuiltins (Str.ofString z) == some (biV b) && !(Str.ofString z == "__name__")
  | (z, .tup vs) => low (Str.ofString z) && match nsIn K mainGlobals (Str.ofString z) with
    | some (some (.ref a)) => (match K.lookup a with
      | some ⟨.type t, _, .seq ws _, _⟩ => t == "tuple" && strsChk vs ws.toList
      | _ => false)
    | _ => false
  | (z, .int i) => low (Str.ofString z) && match nsIn K mainGlobals (Str.ofString z) with
    | some (some (.int j _)) => decide (i = j)
    | _ => false
  | _ => false
theorem glb_ok {K : Frag} {B : Heap} {D : Ad} {mg mb : Str → Option Value} (X : K.In B) (g : B.Ns mainGlobals mg) (hb : ∀ x : Str, x ≠ "__name__" → mb x = bootBuiltins x) {z : String} {v : MV} (h : glbChk K D (z, v) = true) :
    low (Str.ofString z) = true ∧ ∃ u, (mg (Str.ofString z) = some u ∨ (mg (Str.ofString z) = none ∧ mb (Str.ofString z) = some u)) ∧ VR D [] B v u := by
  cases v with
  | fn f =>
    have h : (low (Str.ofString z) && nsIn K mainGlobals (Str.ofString z) == some (some (.ref (D.fa f)))) = true := h
    rw [Bool.and_eq_true] at h
    exact ⟨h.1, _, .inl (mg_of X g (beq_iff_eq.mp h.2)), .fn f⟩
  | cls c =>
    have h : (low (Str.ofString z) && nsIn K mainGlobals (Str.ofString z) == some (some (.ref (D.ca c)))) = true := h
    rw [Bool.and_eq_true] at h
    exact ⟨h.1, _, .inl (mg_of X g (beq_iff_eq.mp h.2)), .cls c⟩
  | bi b =>
    have h : (low (Str.ofString z) && nsIn K mainGlobals (Str.ofString z) == some none && bootBuiltins (Str.ofString z) == some (biV b) && !(Str.ofString z == "__name__")) = true := h
    rw [Bool.and_eq_true, Bool.and_eq_true, Bool.and_eq_true] at h
    have hn : Str.ofString z ≠ "__name__" := by simpa using h.2
    exact ⟨h.1.1.1, _, .inr ⟨mg_none_of X g (beq_iff_eq.mp h.1.1.2), (hb _ hn).trans (beq_iff_eq.mp h.1.2)⟩, .bi b _ rfl⟩
  | tup vs =>
    have h : (low (Str.ofString z) && match nsIn K mainGlobals (Str.ofString z) with
    | some (some (.ref a)) => (match K.lookup a with
      | some ⟨.type t, _, .seq ws _, _⟩ => t == "tuple" && strsChk vs ws.toList
      | _ => false)
    | _ => false) = true := h
    rw [Bool.and_eq_true] at h
    obtain ⟨h1, h2⟩ := h
    split at h2
    · rename_i a q
      split at h2
      · rename_i t dd ws n sl q2
        rw [Bool.and_eq_true] at h2
        obtain rfl : t = "tuple" := beq_iff_eq.mp h2.1
        exact ⟨h1, _, .inl (mg_of X g q), .tup vs a ws ⟨_, X _ _ q2, rfl, n, rfl⟩ (strs_ok h2.2)⟩
      · cases h2
    · cases h2
  | int i =>
    have h : (low (Str.ofString z) && match nsIn K mainGlobals (Str.ofString z) with
    | some (some (.int j _)) => decide (i = j)
    | _ => false) = true := h
    rw [Bool.and_eq_true] at h
    obtain ⟨h1, h2⟩ := h
    split at h2
    · rename_i j t q
      obtain rfl := of_decide_eq_true h2
      exact ⟨h1, _, .inl (mg_of X g q), .int i t⟩
    · cases h2
  | _ => cases h
noncomputable def clsChk (K : Frag) (D : Ad) (C : Addr) (as : List String) (ms : List (String × Nat)) : Bool :=
  makesIn K C && keepIn K (.ref C) && findIn K (.ref C) "__getattribute__" == some (some (.builtin "object.__getattribute__")) && findIn K (.ref C) "__getattr__" == some none && findIn K (.ref C) "__setattr__" == some (some (.builtin "object.__setattr__")) &&
    plainOver K C && (clsIn K C).any (·.hasDict) && as.all (fun z => low (Str.ofString z) && findIn K (.ref C) (Str.ofString z) == some none) &&
    ms.all (fun p => low (Str.ofString p.1) && findIn K (.ref C) (Str.ofString p.1) == some (some (.ref (D.fa p.2))) && typeIn K (.ref (D.fa p.2)) == some (.type "function") && !copiedNames.contains (Str.ofString p.1))
theorem cls_ok {K : Frag} {D : Ad} {P : Pg} {c : Nat} {as : List String} {ms : List (String × Nat)} (h : clsChk K D (D.ca c) as ms = true) (ha : ∀ x, P.atr c x = true → ∃ z ∈ as, x = code (Str.ofString z)) (hm : ∀ x f, P.meth c x = some f → ∃ p ∈ ms, x = code (Str.ofString p.1) ∧ f = p.2) : ClsOk K D P c := by
  unfold clsChk at h
  simp only [Bool.and_eq_true, List.all_eq_true, beq_iff_eq, Bool.not_eq_true'] at h
  obtain ⟨⟨⟨⟨⟨⟨⟨⟨h1, h2⟩, h3⟩, h4⟩, h5⟩, h6⟩, h7⟩, h8⟩, h9⟩ := h
  refine ⟨h1, h2, h3, h4, h5, h6, h7, fun z hz q => ?_, fun z f hz q => ?_⟩
  · obtain ⟨y, hy, e⟩ := ha _ q
    obtain ⟨l, r⟩ := h8 y hy
    rw [code_inj hz (low_ok l) e]
    exact r
  · obtain ⟨p, hp, e, rfl⟩ := hm _ _ q
    obtain ⟨⟨⟨l, r⟩, t⟩, n⟩ := h9 p hp
    rw [code_inj hz (low_ok l) e]
    exact ⟨r, t, n⟩
theorem lkN_map {α β : Type} (f : α → β) (n : Nat) : ∀ (l : List (Nat × α)), lkN n (l.map fun p => (p.1, f p.2)) = (lkN n l).map f
  | [] => rfl
  | (k, a) :: r => by
    rw [List.map_cons]
    unfold lkN
    cases Nat.beq k n with
    | true => rfl
    | false => exact lkN_map f n r
theorem cx_of {prog : Program} {w : World} {K : Frag} {B : Heap} {D : Ad} {mg mb : Str → Option Value} {fns : List (Nat × MF)} {glb : List (Nat × MV)} {cls : List (Nat × List Nat × List (Nat × Nat))} {gS : List (String × MV)} {cS : List (Nat × List String × List (String × Nat))}
    (X : K.In B) (g : B.Ns mainGlobals mg) (b : B.Ns builtinsNs mb) (hb : ∀ x : Str, x ≠ "__name__" → mb x = bootBuiltins x) (nl : B.NoLimit)
    (hF : ∀ p ∈ fns, fnChk K (D.fa p.1) = true ∧ trK K (D.fa p.1) = some p.2 ∧ BindOk K (D.fa p.1))
    (eG : glb = gS.map fun p => (code (Str.ofString p.1), p.2)) (hG : ∀ p ∈ gS, glbChk K D p = true)
    (eC : cls = cS.map fun p => (p.1, p.2.1.map fun z => code (Str.ofString z), p.2.2.map fun q => (code (Str.ofString q.1), q.2))) (hC : ∀ p ∈ cS, clsChk K D (D.ca p.1) p.2.1 p.2.2 = true) :
    Cx prog w K B D (pg fns glb cls) := by
  have hfn : ∀ f F, (pg fns glb cls).fns f = some F → (∃ o fd body names, FnOk B D f F o fd body names) ∧ keepIn K (.ref (D.fa f)) = true ∧ fnIn K (D.fa f) = true := fun f F e => by
    obtain ⟨h1, h2, h3⟩ := hF _ (lkN_mem e)
    exact fnOk_of X h1 h2 h3
  refine ⟨X, nl, ⟨mg, mb, g, b, fun x v ok e => ?_⟩, fun f F e => (hfn f F e).1, fun f e => ?_, fun c e => ?_⟩
  · have hm := lkN_mem e
    rw [eG] at hm
    obtain ⟨⟨z, v'⟩, hz, q⟩ := List.mem_map.mp hm
    injection q with q1 q2
    subst q2
    obtain ⟨l, u, hu, xu⟩ := glb_ok X g hb (hG _ hz)
    have hx : x = Str.ofString z := code_inj ok (low_ok l) q1.symm
    subst hx
    exact ⟨u, hu, xu⟩
  · obtain ⟨F, hF'⟩ := Option.isSome_iff_exists.mp e
    exact (hfn f F hF').2
  · have hl : ∀ c, lkN c cls = (lkN c cS).map fun p => (p.1.map fun z => code (Str.ofString z), p.2.map fun q => (code (Str.ofString q.1), q.2)) := fun c => by
      rw [eC]
      exact lkN_map (fun p : List String × List (String × Nat) => (p.1.map fun z => code (Str.ofString z), p.2.map fun q => (code (Str.ofString q.1), q.2))) c cS
    have hat : ∀ x, (pg fns glb cls).atr c x = (match lkN c cls with | some p => p.1.any (Nat.beq x) | none => false) := fun _ => rfl
    have hmt : ∀ x, (pg fns glb cls).meth c x = (match lkN c cls with | some p => lkN x p.2 | none => none) := fun _ => rfl
    cases hc : lkN c cS with
    | none =>
      exfalso
      rcases e with ⟨x, e⟩ | ⟨x, f, e⟩
      · rw [hat, hl, hc] at e; cases e
      · rw [hmt, hl, hc] at e; cases e
    | some p =>
      refine cls_ok (as := p.1) (ms := p.2) (hC _ (lkN_mem hc)) (fun x e => ?_) (fun x f e => ?_)
      · rw [hat, hl, hc] at e
        obtain ⟨y, hy, q⟩ := List.any_eq_true.mp e
        obtain ⟨z, hz, rfl⟩ := List.mem_map.mp hy
        exact ⟨z, hz, Nat.eq_of_beq_eq_true q⟩
      · rw [hmt, hl, hc] at e
        obtain ⟨q, hq, e'⟩ := List.mem_map.mp (lkN_mem e)
        injection e' with e1 e2
        exact ⟨q, hq, e1.symm, e2.symm⟩
theorem fns_ok {K : Frag} {D : Ad} {fns : List (Nat × MF)} (h1 : fns.all (fun q => fnChk K (D.fa q.1)) = true) (h2 : fns.map (fun q => trK K (D.fa q.1)) = fns.map fun q => some q.2) (hm : fns.all (fun q => decide (q.2.params.length ≤ 6)) = true)
    (hb : ∀ vals : List Value, vals.length ≤ 6 → ∀ S, (fns.filter fun q => q.2.params.length == vals.length).map (fun q => (fdOf K (D.fa q.1)).map fun fd => peek K S (bindArgs fd ⟨vals, []⟩)) = (fns.filter fun q => q.2.params.length == vals.length).map fun q => (fdOf K (D.fa q.1)).map fun fd => some ((namesOf fd).zip vals)) :
    ∀ q ∈ fns, fnChk K (D.fa q.1) = true ∧ trK K (D.fa q.1) = some q.2 ∧ BindOk K (D.fa q.1) := by
  intro q hq
  have t := List.map_inj_left.mp h2 q hq
  refine ⟨List.all_eq_true.mp h1 q hq, t, fun fd e vals hl S => ?_⟩
  have hn : q.2.params.length = vals.length := by
    have t' : trK K (D.fa q.1) = some q.2 := t
    unfold trK at t'
    rw [e] at t'
    have t' : trF fd.params (bodyOf fd) fd.scope = some q.2 := t'
    unfold trF at t'
    obtain ⟨b, _, t2⟩ := Option.bind_eq_some_iff.mp t'
    injection t2 with t2
    rw [hl, ← t2]
    simp [namesOf]
  have h6 : vals.length ≤ 6 := by
    have := List.all_eq_true.mp hm q hq
    rw [← hn]
    exact of_decide_eq_true this
  have := List.map_inj_left.mp (hb vals h6 S) q (List.mem_filter.mpr ⟨hq, by simpa using hn⟩)
  rw [e] at this
  simpa using this
end Mn
end
section
set_option maxHeartbeats 8000000
namespace Mn
set_option maxRecDepth 100000
open PySem PySem.W PyProof.Rows PySem.Calls
noncomputable def fa1 : List (Nat × Addr) := [(6667588095471287494772, 93), (101739320405292389, 100), (405124742605158, 399), (100327547307650416, 477), (6013154419, 72), (27050993673148788582, 79), (104543109313949542, 107), (26045266036471589989, 185), (104538767203525988, 192), (7614177814149658286333369749759332, 199), (26689848079763268964, 241), (26477335546137898854, 248), (194457990623467002731720290528779134031162615835562905597489545565136868464516194431661892529245385991427091357535, 262), (26550255131573645166, 276), (25827140487513861990, 283), (25827991504983908724, 290), (390831091446895, 297), (101739320337068916, 304), (6611964964349787203950, 311), (25827988142192422245, 318), (25827988142192687220, 325), (453840253188586128076663150, 330), (6925052691476228959844, 335), (1772758506815339922285413, 343), (1543763096930, 350), (114632105102705455381897896805, 357), (390775174292846, 364), (11697680140813699095553617261840367871545979128954689612172222715852675943943904352908445219913983994388319, 378), (1739997520299507713011558, 392), (103711934106397804, 406), (395143239198066, 413), (6685749423849843160947, 420), (6593442222075483746419, 427), (100887207483827566, 434), (26547700982972641126, 441), (110619604343493981063185263717, 455), (100327547239952247, 470), (100327547340812144, 484), (391904481406834, 491), (6758820052925821382509, 498), (196254634976314992399582029673955626514985301736485678804054381246074043110747630893076508655770246495932903612255, 512), (196254634976314992399582029673955626514985301736485678804054381246074043110747630893076508655744927425992349348968, 519), (196254634976314992399582029673955626514985301736485678804054381246074043110747630893076508655744927425992231709797, 526), (196254634976314992399582029673955626514985301736485678804054381246074043110747630922737992600407855010891708853605, 533), (196254634976314992399582029673955626514985301736485678804054381246074043110747630893076508655744927425975253168741, 540), (196254634976314992399582029673955626514985301736485678804054381246074043110747630893076508655744927424386047964531, 547), (196254634976314992399582029673955626514985301736485678804054381246074043110747630893076508655744927424379866933103, 554), (23880055, 603), (6482616824352480584055, 568), (1659549907034316584678504, 575), (25322721970127398260, 582), (108760262707399004654086021485, 589), (108760262707398718737978912631, 596)]
noncomputable def ca1 : List (Nat × Addr) := [(91038937668284268, 265), (5476475252, 381), (91880068406736238, 557)]
noncomputable def D1 : Ad := adOf fa1 ca1
noncomputable def gS1 : List (String × MV) := [("is_nought", .fn 6667588095471287494772), ("is_true", .fn 101739320405292389), ("put_if", .fn 405124742605158), ("do_jump", .fn 100327547307650416), ("fits", .fn 6013154419), ("whole_of", .fn 27050993673148788582), ("sign_of", .fn 104543109313949542), ("is_whole", .fn 26045266036471589989), ("settled", .fn 104538767203525988), ("whole_reckoned", .fn 7614177814149658286333369749759332), ("reckoned", .fn 26689848079763268964), ("order_of", .fn 26477335546137898854), ("put_upon", .fn 26550255131573645166), ("floor_of", .fn 25827140487513861990), ("found_at", .fn 25827991504983908724), ("cut_to", .fn 390831091446895), ("is_past", .fn 101739320337068916), ("for_begin", .fn 6611964964349787203950), ("for_name", .fn 25827988142192422245), ("for_next", .fn 25827988142192687220), ("while_begin", .fn 453840253188586128076663150), ("while_end", .fn 6925052691476228959844), ("wend_place", .fn 1772758506815339922285413), ("gosub", .fn 1543763096930), ("return_place", .fn 114632105102705455381897896805), ("chosen", .fn 390775174292846), ("put_row_of", .fn 1739997520299507713011558), ("put_all", .fn 103711934106397804), ("gather", .fn 395143239198066), ("join_rows", .fn 6685749423849843160947), ("end_loops", .fn 6593442222075483746419), ("flatten", .fn 100887207483827566), ("place_of", .fn 26547700982972641126), ("end_of_while", .fn 110619604343493981063185263717), ("do_flow", .fn 100327547239952247), ("do_loop", .fn 100327547340812144), ("do_for", .fn 391904481406834), ("next_from", .fn 6758820052925821382509), ("Control", .cls 91038937668284268), ("Flat", .cls 5476475252), ("FlowRun", .cls 91880068406736238), ("len", .bi .len), ("abs", .bi .abs), ("range", .bi .range), ("isinstance", .bi .isinst), ("enumerate", .bi .enum), ("dict", .bi .dict), ("max", .bi .max), ("str", .bi .tstr), ("tuple", .bi .ttup), ("JUMPS", .tup [.str 1414223777620, .str 5542071632, .str 5491348559, .str 1405785167170, .str 5625497423, .str 371932697809486]), ("MOST_NUMBER", .int 255), ("law", .fn 23880055), ("_law_draw", .fn 6482616824352480584055), ("_law_worth", .fn 1659549907034316584678504), ("_law_let", .fn 25322721970127398260), ("_law_program", .fn 108760262707399004654086021485), ("_law_one_row", .fn 108760262707398718737978912631)]
noncomputable def cS1 : List (Nat × List String × List (String × Nat)) := [(91038937668284268, ["pile", "most", "failed_at"], [("__init__", 194457990623467002731720290528779134031162615835562905597489545565136868464516194431661892529245385991427091357535)]), (5476475252, ["rows", "places", "data", "pairs", "loops", "fns"], [("__init__", 11697680140813699095553617261840367871545979128954689612172222715852675943943904352908445219913983994388319)]), (91880068406736238, ["flat", "values", "worth_of", "bits", "digits", "control", "notes"], [("__init__", 196254634976314992399582029673955626514985301736485678804054381246074043110747630893076508655770246495932903612255), ("worth", 196254634976314992399582029673955626514985301736485678804054381246074043110747630893076508655744927425992349348968), ("whole", 196254634976314992399582029673955626514985301736485678804054381246074043110747630893076508655744927425992231709797), ("value_of_name", 196254634976314992399582029673955626514985301736485678804054381246074043110747630922737992600407855010891708853605), ("store", 196254634976314992399582029673955626514985301736485678804054381246074043110747630893076508655744927425975253168741), ("plus", 196254634976314992399582029673955626514985301736485678804054381246074043110747630893076508655744927424386047964531), ("go", 196254634976314992399582029673955626514985301736485678804054381246074043110747630893076508655744927424379866933103)])]
theorem eG1 : cglb ++ lg1 = gS1.map fun p => (code (Str.ofString p.1), p.2) := by kernel_rfl
theorem eC1 : ccls = cS1.map fun p => (p.1, p.2.1.map fun z => code (Str.ofString z), p.2.2.map fun q => (code (Str.ofString q.1), q.2)) := by kernel_rfl
structure Chk (K : Params → Frag) : Prop where
  g : ∀ p, gS1.all (glbChk (K p) D1) = true
  c : ∀ p, cS1.all (fun q => clsChk (K p) D1 (D1.ca q.1) q.2.1 q.2.2) = true
  o : ∀ p, (cfns ++ lf1).all (fun q => fnChk (K p) (D1.fa q.1)) = true
  t : ∀ p, (cfns ++ lf1).map (fun q => trK (K p) (D1.fa q.1)) = (cfns ++ lf1).map fun q => some q.2
  b : ∀ p (vals : List Value), vals.length ≤ 6 → ∀ S, ((cfns ++ lf1).filter fun q => q.2.params.length == vals.length).map (fun q => (fdOf (K p) (D1.fa q.1)).map fun fd => peek (K p) S (bindArgs fd ⟨vals, []⟩)) = ((cfns ++ lf1).filter fun q => q.2.params.length == vals.length).map fun q => (fdOf (K p) (D1.fa q.1)).map fun fd => some ((namesOf fd).zip vals)
  l : ∀ p, nsIn (K p) mainGlobals (Str.ofString "law") = some (some (.ref (D1.fa 23880055)))
theorem Chk.cx {K : Params → Frag} (k : Chk K) {prog : Program} {w : World} {B : Heap} {mg mb : Str → Option Value} (X : (K w.params).In B) (g : B.Ns mainGlobals mg) (b : B.Ns builtinsNs mb) (hb : ∀ x : Str, x ≠ "__name__" → mb x = bootBuiltins x) (nl : B.NoLimit) : Cx prog w (K w.params) B D1 (PgC lf1 lg1) :=
  cx_of X g b hb nl (fns_ok (k.o _) (k.t _) (by decide +kernel) (k.b _)) eG1 (List.all_eq_true.mp (k.g _)) eC1 (List.all_eq_true.mp (k.c _))
theorem walk_ {V : Program} {L : List Str} {as : List Addr} {K : Params → Frag} {e : ∀ P, as = (K P).map (·.1)} {d : DefRec} (c : Chk K) (hn : d.name = Str.ofString "law") : WalkO V L (XL V []) (kHook K as e).says PySem.Challenge.rw_xm0055_01.row.toRowW d [] (fun f vs => PySem.call f vs) := by
  intro w s₀ s₁ mg mb G Y fa o pm cd doc dV kV ho hd hcd hD hmg hg args vals as hpre hlay hrd hwl hlo
  have KX := kIn_of Y
  refine Ground.open G ?_
  intro T B D TE TW
  wrow_args hpre hlay hrd hwl hlo
  rename_i ns _ _ _ _ _ _ _ script vs _ hL _ _ _ hI _ _ _
  rw [hn, mg_of KX T.g (c.l w.params)] at hmg
  injection hmg with hmg
  injection hmg with hfa
  obtain ⟨H', hH⟩ := Mg.law1_true ns (by omega)
  show wpAny (model PySem.Challenge.rw_xm0055_01.row.prog w) callerA (call (.ref fa) [.ref script]) _ _ s₁
  rw [← hfa]
  refine law_entry (c.cx KX T.g T.b T.builtins T.nolimit) hH (by decide) (by decide) rfl hL hI fun h' t hk => ?_
  exact ⟨.inl ⟨_, _, [], rfl, fun _ => rfl, ReadsW.bool true, (by first | exact postW_of (X := true) rfl rfl rfl | exact postW_of (X := true) rfl (by wtm_val) rfl), fun _ => ⟨List.nodup_nil, fun _ hm => (nomatch hm)⟩⟩, .of_keep hk, rfl, by rw [hg]; exact AllBare.empty⟩
end Mn
end
open PySem PySem.W PyProof.Rows
set_option maxRecDepth 100000
set_option maxHeartbeats 8000000
namespace Mn
theorem hd1.tw10101757188333035326 : True := trivial
theorem hd1.tw10114933015229823366 : True := trivial
theorem hd1.tw10230956755784522763 : True := trivial
theorem hd1.tw10308243335433410522 : True := trivial
theorem hd1.tw1034299632827384462 : True := trivial
theorem hd1.tw10343613628324148063 : True := trivial
theorem hd1.tw10383628742435884825 : True := trivial
theorem hd1.tw10417727162193938275 : True := trivial
theorem hd1.tw10428015329670568836 : True := trivial
theorem hd1.tw10432350025517724199 : True := trivial
theorem hd1.tw10451876220217505974 : True := trivial
theorem hd1.tw10487988819813520266 : True := trivial
theorem hd1.tw10611132700786957682 : True := trivial
theorem hd1.tw10619199642154897824 : True := trivial
theorem hd1.tw10669876655365403576 : True := trivial
theorem hd1.tw10675434292421155244 : True := trivial
theorem hd1.tw10703932838401315930 : True := trivial
theorem hd1.tw10713107652777160137 : True := trivial
theorem hd1.tw10768302909201254302 : True := trivial
theorem hd1.tw10781831405507743519 : True := trivial
theorem hd1.tw10803931599319563062 : True := trivial
theorem hd1.tw10846651777249199668 : True := trivial
theorem hd1.tw10918538385337088019 : True := trivial
theorem hd1.tw10941325127998080132 : True := trivial
theorem hd1.tw10977937878415517421 : True := trivial
theorem hd1.tw10983204586922293869 : True := trivial
theorem hd1.tw11070179557021231184 : True := trivial
theorem hd1.tw11116496180226424481 : True := trivial
theorem hd1.tw1113900453772742074 : True := trivial
theorem hd1.tw11220005919091707286 : True := trivial
theorem hd1.tw11222620868066814695 : True := trivial
theorem hd1.tw11277303331153877314 : True := trivial
theorem hd1.tw11355173667898414564 : True := trivial
theorem hd1.tw11436471865321315382 : True := trivial
theorem hd1.tw11437911546913218523 : True := trivial
theorem hd1.tw11444591100785964060 : True := trivial
theorem hd1.tw11475559874188635313 : True := trivial
theorem hd1.tw1149814106671542359 : True := trivial
theorem hd1.tw1155131503475262334 : True := trivial
theorem hd1.tw11551927612438492772 : True := trivial
theorem hd1.tw1155654224718707169 : True := trivial
theorem hd1.tw1157678208694241930 : True := trivial
theorem hd1.tw11601283698626024203 : True := trivial
theorem hd1.tw11626921356129871390 : True := trivial
theorem hd1.tw11704507177507877392 : True := trivial
theorem hd1.tw11719881482662706633 : True := trivial
theorem hd1.tw11737150195221662908 : True := trivial
theorem hd1.tw11758330045447689414 : True := trivial
theorem hd1.tw11849979835443268769 : True := trivial
theorem hd1.tw11909103556892459687 : True := trivial
theorem hd1.tw1193305769973716850 : True := trivial
theorem hd1.tw12010295392989057298 : True := trivial
theorem hd1.tw12011861285708686585 : True := trivial
theorem hd1.tw12032996863640163701 : True := trivial
theorem hd1.tw12065780292557830945 : True := trivial
theorem hd1.tw12100502400909409416 : True := trivial
theorem hd1.tw12155946946155138845 : True := trivial
theorem hd1.tw12236676146771082165 : True := trivial
theorem hd1.tw12240645386540478201 : True := trivial
theorem hd1.tw12302519368135480376 : True := trivial
theorem hd1.tw12338827867156793983 : True := trivial
theorem hd1.tw12403036050462662886 : True := trivial
theorem hd1.tw12416182168021992680 : True := trivial
theorem hd1.tw12420265377945175927 : True := trivial
theorem hd1.tw12518958314251843863 : True := trivial
theorem hd1.tw12529973312438020244 : True := trivial
theorem hd1.tw12542738116269488674 : True := trivial
theorem hd1.tw12596199039631840591 : True := trivial
theorem hd1.tw1261324182816402747 : True := trivial
theorem hd1.tw12664017933045845384 : True := trivial
theorem hd1.tw1267430066489882789 : True := trivial
theorem hd1.tw12712042787326640565 : True := trivial
theorem hd1.tw12736617209640594245 : True := trivial
theorem hd1.tw12754979671923185749 : True := trivial
theorem hd1.tw12762424599624398544 : True := trivial
theorem hd1.tw12794879801007568131 : True := trivial
theorem hd1.tw12802229027860078947 : True := trivial
theorem hd1.tw12831222527111202993 : True := trivial
theorem hd1.tw12851812080337500872 : True := trivial
theorem hd1.tw12854374324124107033 : True := trivial
theorem hd1.tw12856045037173897582 : True := trivial
theorem hd1.tw12856579132433164198 : True := trivial
theorem hd1.tw12899336729916460852 : True := trivial
theorem hd1.tw12911037694483497976 : True := trivial
theorem hd1.tw12913891138371843106 : True := trivial
theorem hd1.tw1293503590255145732 : True := trivial
theorem hd1.tw12957898822313049539 : True := trivial
theorem hd1.tw13017145974003761750 : True := trivial
theorem hd1.tw13023488470831232498 : True := trivial
theorem hd1.tw13051567359931932649 : True := trivial
theorem hd1.tw13068920119494259720 : True := trivial
theorem hd1.tw13078657521761239367 : True := trivial
theorem hd1.tw1309942544125568113 : True := trivial
theorem hd1.tw13100498778675881150 : True := trivial
theorem hd1.tw13108210231698334997 : True := trivial
theorem hd1.tw13186506950198767640 : True := trivial
theorem hd1.tw13188013619126184945 : True := trivial
theorem hd1.tw13210071910591394445 : True := trivial
theorem hd1.tw13211213879817705252 : True := trivial
theorem hd1.tw13285433767831095532 : True := trivial
theorem hd1.tw13301984804426444230 : True := trivial
theorem hd1.tw13313529823400300918 : True := trivial
theorem hd1.tw13324897520825723472 : True := trivial
theorem hd1.tw13333997440708582353 : True := trivial
theorem hd1.tw13337083216595796708 : True := trivial
theorem hd1.tw13391929378042738275 : True := trivial
theorem hd1.tw13394801249942900283 : True := trivial
theorem hd1.tw13402854203459129165 : True := trivial
theorem hd1.tw13443019658655478428 : True := trivial
theorem hd1.tw13469837170807997646 : True := trivial
theorem hd1.tw1350200115605090221 : True := trivial
theorem hd1.tw13544737298199318355 : True := trivial
theorem hd1.tw1366013282331052151 : True := trivial
theorem hd1.tw13678954444457665261 : True := trivial
theorem hd1.tw13696868827685189810 : True := trivial
theorem hd1.tw13740079808513704984 : True := trivial
theorem hd1.tw13752265410343495596 : True := trivial
theorem hd1.tw13782216647068581123 : True := trivial
theorem hd1.tw13785297794354198359 : True := trivial
theorem hd1.tw13821873623236680507 : True := trivial
theorem hd1.tw13843738601288162859 : True := trivial
theorem hd1.tw13847264548003217724 : True := trivial
theorem hd1.tw13865352354728607112 : True := trivial
theorem hd1.tw13872363148835682794 : True := trivial
theorem hd1.tw13878885427487705788 : True := trivial
theorem hd1.tw13889913404299784899 : True := trivial
theorem hd1.tw13949228348308659361 : True := trivial
theorem hd1.tw14002308720835728334 : True := trivial
theorem hd1.tw14003030863120788314 : True := trivial
theorem hd1.tw1400722433641018739 : True := trivial
theorem hd1.tw14008531946098845940 : True := trivial
theorem hd1.tw14021158485948801913 : True := trivial
theorem hd1.tw14043878992894184990 : True := trivial
theorem hd1.tw14044339370354800541 : True := trivial
theorem hd1.tw14053492045238355889 : True := trivial
theorem hd1.tw14084640845112511115 : True := trivial
theorem hd1.tw14214366479012229835 : True := trivial
theorem hd1.tw14245007480368522803 : True := trivial
theorem hd1.tw1428528328818120704 : True := trivial
theorem hd1.tw14291648616681187525 : True := trivial
theorem hd1.tw14292102617579038251 : True := trivial
theorem hd1.tw14297861423828764966 : True := trivial
theorem hd1.tw14314033657982484952 : True := trivial
theorem hd1.tw14319729634648514379 : True := trivial
theorem hd1.tw14357185204786824410 : True := trivial
theorem hd1.tw14361770396976720508 : True := trivial
theorem hd1.tw1441210867548291895 : True := trivial
theorem hd1.tw14465435074784712455 : True := trivial
theorem hd1.tw14521565338767775045 : True := trivial
theorem hd1.tw14538885567059854179 : True := trivial
theorem hd1.tw1457175774229718259 : True := trivial
theorem hd1.tw14608290845536831816 : True := trivial
theorem hd1.tw14615277840031832565 : True := trivial
theorem hd1.tw14679909939223305598 : True := trivial
theorem hd1.tw14709140460867000597 : True := trivial
theorem hd1.tw14721351779639156925 : True := trivial
theorem hd1.tw14741538208899586873 : True := trivial
theorem hd1.tw14802104956673737250 : True := trivial
theorem hd1.tw14831975112558219408 : True := trivial
theorem hd1.tw14833346182287232592 : True := trivial
theorem hd1.tw14867315886559615272 : True := trivial
theorem hd1.tw14877594065520025536 : True := trivial
theorem hd1.tw14922259059038244655 : True := trivial
theorem hd1.tw14979522683502999020 : True := trivial
theorem hd1.tw14990810409049694594 : True := trivial
theorem hd1.tw15130416722522827114 : True := trivial
theorem hd1.tw15137825691396273342 : True := trivial
theorem hd1.tw15145077445314392773 : True := trivial
theorem hd1.tw15155969608848200292 : True := trivial
theorem hd1.tw15173749837372020177 : True := trivial
theorem hd1.tw15199814019153750623 : True := trivial
theorem hd1.tw15227086899176271342 : True := trivial
theorem hd1.tw15254434357985925875 : True := trivial
theorem hd1.tw15292298469020077837 : True := trivial
theorem hd1.tw15313862642786711862 : True := trivial
theorem hd1.tw15314073649413823630 : True := trivial
theorem hd1.tw15314279444140264311 : True := trivial
theorem hd1.tw15330129905595110999 : True := trivial
theorem hd1.tw15337640809654415608 : True := trivial
theorem hd1.tw15339906711789475427 : True := trivial
theorem hd1.tw1537414151898565963 : True := trivial
theorem hd1.tw1539712742383354705 : True := trivial
theorem hd1.tw15417985166168588039 : True := trivial
theorem hd1.tw15520417614674751935 : True := trivial
theorem hd1.tw15546668442247053660 : True := trivial
theorem hd1.tw15581688485708395917 : True := trivial
theorem hd1.tw15588997061657911125 : True := trivial
theorem hd1.tw15629474570880807051 : True := trivial
theorem hd1.tw15692086788179907273 : True := trivial
theorem hd1.tw15712783550663583341 : True := trivial
theorem hd1.tw15740379873351355225 : True := trivial
theorem hd1.tw15756463989303918107 : True := trivial
theorem hd1.tw15787193712624730131 : True := trivial
theorem hd1.tw15793794339118102869 : True := trivial
theorem hd1.tw15800028486998507056 : True := trivial
theorem hd1.tw15859657040619116079 : True := trivial
theorem hd1.tw15903754304999262239 : True := trivial
theorem hd1.tw15912417651295582596 : True := trivial
theorem hd1.tw15967257731842142549 : True := trivial
theorem hd1.tw15970515698269978043 : True := trivial
theorem hd1.tw15973798665605139247 : True := trivial
theorem hd1.tw15987531565317997324 : True := trivial
theorem hd1.tw15991596946466678191 : True := trivial
theorem hd1.tw16029681295962521037 : True := trivial
theorem hd1.tw16073012182601104676 : True := trivial
theorem hd1.tw16080525969466219151 : True := trivial
theorem hd1.tw16127696623434056502 : True := trivial
theorem hd1.tw16136938477410247450 : True := trivial
theorem hd1.tw16157122905131727888 : True := trivial
theorem hd1.tw16225195909927145135 : True := trivial
theorem hd1.tw16235262044258609568 : True := trivial
theorem hd1.tw16353627943912369912 : True := trivial
theorem hd1.tw16357934398407716495 : True := trivial
theorem hd1.tw16395880280424412822 : True := trivial
theorem hd1.tw1640649477528219837 : True := trivial
theorem hd1.tw16447633110327623226 : True := trivial
theorem hd1.tw16489880985588211895 : True := trivial
theorem hd1.tw16507872608013960873 : True := trivial
theorem hd1.tw16523927343055956803 : True := trivial
theorem hd1.tw16524365522359651955 : True := trivial
theorem hd1.tw16543072678218066961 : True := trivial
theorem hd1.tw1657476722607724300 : True := trivial
theorem hd1.tw16578162193254126722 : True := trivial
theorem hd1.tw16604416001323438441 : True := trivial
theorem hd1.tw16610558300557630715 : True := trivial
theorem hd1.tw16620340205983074833 : True := trivial
theorem hd1.tw16629523808852935039 : True := trivial
theorem hd1.tw16684859322969360653 : True := trivial
theorem hd1.tw16713089758035011524 : True := trivial
theorem hd1.tw16716868009329039066 : True := trivial
theorem hd1.tw16721780858113476710 : True := trivial
theorem hd1.tw16739380364185138069 : True := trivial
theorem hd1.tw16757827790531828632 : True := trivial
theorem hd1.tw16764978384932839654 : True := trivial
theorem hd1.tw16972838076666934479 : True := trivial
theorem hd1.tw17117530662907823143 : True := trivial
theorem hd1.tw17124476169088147113 : True := trivial
theorem hd1.tw1715102908294343691 : True := trivial
theorem hd1.tw1719884655454305598 : True := trivial
theorem hd1.tw17206106024842642162 : True := trivial
theorem hd1.tw17206272642303345855 : True := trivial
theorem hd1.tw17267300463417521 : True := trivial
theorem hd1.tw17285910415382737831 : True := trivial
theorem hd1.tw17291589560048275756 : True := trivial
theorem hd1.tw1730888071247311834 : True := trivial
theorem hd1.tw17324113365093684077 : True := trivial
theorem hd1.tw17327403308025355158 : True := trivial
theorem hd1.tw17333894124154878918 : True := trivial
theorem hd1.tw17341807507781876671 : True := trivial
theorem hd1.tw17362064976921659003 : True := trivial
theorem hd1.tw17411142735543685892 : True := trivial
theorem hd1.tw17506280794852878374 : True := trivial
theorem hd1.tw17510800254711746494 : True := trivial
theorem hd1.tw17511940105192287804 : True := trivial
theorem hd1.tw17561253482456306004 : True := trivial
theorem hd1.tw17629681355062660209 : True := trivial
theorem hd1.tw17647914548966144086 : True := trivial
theorem hd1.tw17657416342534470005 : True := trivial
theorem hd1.tw17698710378766354968 : True := trivial
theorem hd1.tw1770845469738364158 : True := trivial
theorem hd1.tw17717355369332537988 : True := trivial
theorem hd1.tw17848716817752631891 : True := trivial
theorem hd1.tw17884155110323265954 : True := trivial
theorem hd1.tw17904331994088977505 : True := trivial
theorem hd1.tw17931093907971255343 : True := trivial
theorem hd1.tw17987426146895380195 : True := trivial
theorem hd1.tw18110920326115999225 : True := trivial
theorem hd1.tw18115175420128291839 : True := trivial
theorem hd1.tw18120374913026621313 : True := trivial
theorem hd1.tw1820102230476463370 : True := trivial
theorem hd1.tw18233164164073424349 : True := trivial
theorem hd1.tw18242702354581181137 : True := trivial
theorem hd1.tw18310781232187130321 : True := trivial
theorem hd1.tw18345438640927773923 : True := trivial
theorem hd1.tw18352275145473985865 : True := trivial
theorem hd1.tw1847694912829733111 : True := trivial
theorem hd1.tw1851251263676978898 : True := trivial
theorem hd1.tw1867304610657722793 : True := trivial
theorem hd1.tw1933848303279310884 : True := trivial
theorem hd1.tw1940387692456898420 : True := trivial
theorem hd1.tw196384534853617898 : True := trivial
theorem hd1.tw1973704056405558908 : True := trivial
theorem hd1.tw2004448602277899565 : True := trivial
theorem hd1.tw202967498959315141 : True := trivial
theorem hd1.tw2056757321668432907 : True := trivial
theorem hd1.tw2074526433873677895 : True := trivial
theorem hd1.tw2119509234396345959 : True := trivial
theorem hd1.tw2139340540778276633 : True := trivial
theorem hd1.tw2169352905271406027 : True := trivial
theorem hd1.tw2233783354560822066 : True := trivial
theorem hd1.tw2267585935882781266 : True := trivial
theorem hd1.tw2313364077967470744 : True := trivial
theorem hd1.tw2329000658230631006 : True := trivial
theorem hd1.tw2350625885967176765 : True := trivial
theorem hd1.tw239086965905025158 : True := trivial
theorem hd1.tw2402790775870313203 : True := trivial
theorem hd1.tw2410714450587260654 : True := trivial
theorem hd1.tw245058088137960748 : True := trivial
theorem hd1.tw2488014468375070711 : True := trivial
theorem hd1.tw2570796530139143139 : True := trivial
theorem hd1.tw2588457819973587939 : True := trivial
theorem hd1.tw2667844876795899589 : True := trivial
theorem hd1.tw2669621306291714843 : True := trivial
theorem hd1.tw2684959131762942607 : True := trivial
theorem hd1.tw2688205811450398496 : True := trivial
theorem hd1.tw2689784746687169564 : True := trivial
theorem hd1.tw2757256693459536281 : True := trivial
theorem hd1.tw2772021455828447026 : True := trivial
theorem hd1.tw2781939408994497069 : True := trivial
theorem hd1.tw280517295043421621 : True := trivial
theorem hd1.tw2856094657335974155 : True := trivial
theorem hd1.tw2884918699449926580 : True := trivial
theorem hd1.tw2917516878415416360 : True := trivial
theorem hd1.tw2964785792830356645 : True := trivial
theorem hd1.tw3015063026135285151 : True := trivial
theorem hd1.tw3023121094195307916 : True := trivial
theorem hd1.tw3024099533649442904 : True := trivial
theorem hd1.tw3155162555669988361 : True := trivial
theorem hd1.tw3157261360316179401 : True := trivial
theorem hd1.tw3203870217520512386 : True := trivial
theorem hd1.tw322240128923609087 : True := trivial
theorem hd1.tw3285427752458296873 : True := trivial
theorem hd1.tw3311082425519460808 : True := trivial
theorem hd1.tw3320461818890850955 : True := trivial
theorem hd1.tw3375187721593582248 : True := trivial
theorem hd1.tw3405709391414220002 : True := trivial
theorem hd1.tw3431790080599022652 : True := trivial
theorem hd1.tw3472178394181251931 : True := trivial
theorem hd1.tw3495716365779653803 : True := trivial
theorem hd1.tw3547148482321398679 : True := trivial
theorem hd1.tw3586348771845056559 : True := trivial
theorem hd1.tw3652276208021280069 : True := trivial
theorem hd1.tw3669082457877473826 : True := trivial
theorem hd1.tw3717263714746802371 : True := trivial
theorem hd1.tw3751250503683633323 : True := trivial
theorem hd1.tw3784658102001727645 : True := trivial
theorem hd1.tw3787827751622670583 : True := trivial
theorem hd1.tw3807747435015470924 : True := trivial
theorem hd1.tw3813531044832172626 : True := trivial
theorem hd1.tw3814083664028676740 : True := trivial
theorem hd1.tw3826130561774565540 : True := trivial
theorem hd1.tw3919161102194301433 : True := trivial
theorem hd1.tw3953140245224255249 : True := trivial
theorem hd1.tw3990201706895642996 : True := trivial
theorem hd1.tw4000073736322197953 : True := trivial
theorem hd1.tw4005813115371704680 : True := trivial
theorem hd1.tw4034004179775043653 : True := trivial
theorem hd1.tw4046796143284732233 : True := trivial
theorem hd1.tw4064472749172857759 : True := trivial
theorem hd1.tw4068481272203299357 : True := trivial
theorem hd1.tw4071623970768788222 : True := trivial
theorem hd1.tw4105852042162637513 : True := trivial
theorem hd1.tw4180001883342239968 : True := trivial
theorem hd1.tw4198808607873592361 : True := trivial
theorem hd1.tw4243447324857516451 : True := trivial
theorem hd1.tw4284456949661532737 : True := trivial
theorem hd1.tw4307095423108591923 : True := trivial
theorem hd1.tw4334968290404005521 : True := trivial
theorem hd1.tw437274968751999256 : True := trivial
theorem hd1.tw4430432237364476205 : True := trivial
theorem hd1.tw4497821183062409018 : True := trivial
theorem hd1.tw4556285943224534819 : True := trivial
theorem hd1.tw4602962562154806843 : True := trivial
theorem hd1.tw4613836920139929651 : True := trivial
theorem hd1.tw4619812250149846006 : True := trivial
theorem hd1.tw4632556416679392184 : True := trivial
theorem hd1.tw463644990191227727 : True := trivial
theorem hd1.tw4647086422183915009 : True := trivial
theorem hd1.tw4681327897409086984 : True := trivial
theorem hd1.tw4705719804911978437 : True := trivial
theorem hd1.tw4741323971999507630 : True := trivial
theorem hd1.tw4753389529268581750 : True := trivial
theorem hd1.tw4773316260039344295 : True := trivial
theorem hd1.tw4792087073544578487 : True := trivial
theorem hd1.tw4807650427613145483 : True := trivial
theorem hd1.tw48136820834456263 : True := trivial
theorem hd1.tw4832114693858284170 : True := trivial
theorem hd1.tw488662349475255417 : True := trivial
theorem hd1.tw4898413286452362252 : True := trivial
theorem hd1.tw4904363589534021060 : True := trivial
theorem hd1.tw4911897292188017372 : True := trivial
theorem hd1.tw493219094707416590 : True := trivial
theorem hd1.tw4949357374397325802 : True := trivial
theorem hd1.tw498033555254615360 : True := trivial
theorem hd1.tw4996754875677006723 : True := trivial
theorem hd1.tw5003673976176807031 : True := trivial
theorem hd1.tw5023637963891363595 : True := trivial
theorem hd1.tw5093695594133551940 : True := trivial
theorem hd1.tw5131882640071951451 : True := trivial
theorem hd1.tw5169373880032822827 : True := trivial
theorem hd1.tw5189466880053907179 : True := trivial
theorem hd1.tw5230845234965110726 : True := trivial
theorem hd1.tw5242295519617734574 : True := trivial
theorem hd1.tw5251491362564051580 : True := trivial
theorem hd1.tw5252625541617121946 : True := trivial
theorem hd1.tw5270733144956054789 : True := trivial
theorem hd1.tw5284579847134095409 : True := trivial
theorem hd1.tw5294731407313207775 : True := trivial
theorem hd1.tw5296202708200639765 : True := trivial
theorem hd1.tw5341036308472961842 : True := trivial
theorem hd1.tw5371509496474160063 : True := trivial
theorem hd1.tw5401618377660530047 : True := trivial
theorem hd1.tw5424410490813315002 : True := trivial
theorem hd1.tw5429901768659337061 : True := trivial
theorem hd1.tw5449902531107046473 : True := trivial
theorem hd1.tw5533138916882196448 : True := trivial
theorem hd1.tw5537665459443882253 : True := trivial
theorem hd1.tw5542477019484393694 : True := trivial
theorem hd1.tw5582691334778159408 : True := trivial
theorem hd1.tw5599528955480174308 : True := trivial
theorem hd1.tw5624255628132469075 : True := trivial
theorem hd1.tw564066522082144238 : True := trivial
theorem hd1.tw5670584182526988371 : True := trivial
theorem hd1.tw5734005300304890987 : True := trivial
theorem hd1.tw5741770433050978866 : True := trivial
theorem hd1.tw5814952877673002810 : True := trivial
theorem hd1.tw5848170079181603798 : True := trivial
theorem hd1.tw5910208879459091484 : True := trivial
theorem hd1.tw591052969631250588 : True := trivial
theorem hd1.tw5928346909755679434 : True := trivial
theorem hd1.tw5948858035736410991 : True := trivial
theorem hd1.tw597001602723642092 : True := trivial
theorem hd1.tw6031556189557290426 : True := trivial
theorem hd1.tw6056900194107724057 : True := trivial
theorem hd1.tw6099081874337041236 : True := trivial
theorem hd1.tw610107806576250289 : True := trivial
theorem hd1.tw6102887098927863286 : True := trivial
theorem hd1.tw6109640175184674934 : True := trivial
theorem hd1.tw6125534576796246650 : True := trivial
theorem hd1.tw615393854890299441 : True := trivial
theorem hd1.tw6172429912932999873 : True := trivial
theorem hd1.tw61897637469695003 : True := trivial
theorem hd1.tw6308554812306473077 : True := trivial
theorem hd1.tw6323131172504745662 : True := trivial
theorem hd1.tw6439101172201676739 : True := trivial
theorem hd1.tw6447568505360742747 : True := trivial
theorem hd1.tw6449183795169870113 : True := trivial
theorem hd1.tw6506394222491313942 : True := trivial
theorem hd1.tw6526157686316585170 : True := trivial
theorem hd1.tw6550386122785087871 : True := trivial
theorem hd1.tw6596777905634445775 : True := trivial
theorem hd1.tw6611014784042679435 : True := trivial
theorem hd1.tw6692279075738280926 : True := trivial
theorem hd1.tw6739111477576944854 : True := trivial
theorem hd1.tw6799230916453909587 : True := trivial
theorem hd1.tw6885582754537070891 : True := trivial
theorem hd1.tw6917568385356490614 : True := trivial
theorem hd1.tw6958706760730947150 : True := trivial
theorem hd1.tw6964937086408128110 : True := trivial
theorem hd1.tw7012118144104450899 : True := trivial
theorem hd1.tw7016709498091415419 : True := trivial
theorem hd1.tw7032676377937259339 : True := trivial
theorem hd1.tw7032768704646643896 : True := trivial
theorem hd1.tw7087464384704436000 : True := trivial
theorem hd1.tw7121493280332051078 : True := trivial
theorem hd1.tw7144243666964846765 : True := trivial
theorem hd1.tw716697895566152942 : True := trivial
theorem hd1.tw7183523907662770076 : True := trivial
theorem hd1.tw7200711367739525439 : True := trivial
theorem hd1.tw7237284650615001979 : True := trivial
theorem hd1.tw7271653871476443497 : True := trivial
theorem hd1.tw7287852139199333540 : True := trivial
theorem hd1.tw7293039256875453680 : True := trivial
theorem hd1.tw7304292190442099580 : True := trivial
theorem hd1.tw7347727760132795816 : True := trivial
theorem hd1.tw7383188635302912861 : True := trivial
theorem hd1.tw7402866151901325714 : True := trivial
theorem hd1.tw7441642216030097447 : True := trivial
theorem hd1.tw7470896032513809048 : True := trivial
theorem hd1.tw7474695782276254545 : True := trivial
theorem hd1.tw7478865629385494649 : True := trivial
theorem hd1.tw7493543018696562999 : True := trivial
theorem hd1.tw7568678460660622165 : True := trivial
theorem hd1.tw7573038642457354758 : True := trivial
theorem hd1.tw75773087520043030 : True := trivial
theorem hd1.tw7712028585822351137 : True := trivial
theorem hd1.tw7719241253128155590 : True := trivial
theorem hd1.tw7756632029209604647 : True := trivial
theorem hd1.tw7885772985166856988 : True := trivial
theorem hd1.tw7934760926255097964 : True := trivial
theorem hd1.tw7958578780971572002 : True := trivial
theorem hd1.tw8001701678565732883 : True := trivial
theorem hd1.tw8012720004243430529 : True := trivial
theorem hd1.tw8072724078592361095 : True := trivial
theorem hd1.tw808549564775160873 : True := trivial
theorem hd1.tw8104484404558838228 : True := trivial
theorem hd1.tw8109500595137432270 : True := trivial
theorem hd1.tw8176465402176654065 : True := trivial
theorem hd1.tw8195651245272014063 : True := trivial
theorem hd1.tw8260086155146437009 : True := trivial
theorem hd1.tw8274539974473875274 : True := trivial
theorem hd1.tw8277637599256847286 : True := trivial
theorem hd1.tw828594336464762973 : True := trivial
theorem hd1.tw8373667007884999053 : True := trivial
theorem hd1.tw842910515168197603 : True := trivial
theorem hd1.tw848218591050927643 : True := trivial
theorem hd1.tw8503434026211676992 : True := trivial
theorem hd1.tw8558199460625371919 : True := trivial
theorem hd1.tw8560130839715970933 : True := trivial
theorem hd1.tw8580286692566181594 : True := trivial
theorem hd1.tw86589888209037054 : True := trivial
theorem hd1.tw8675530129171696335 : True := trivial
theorem hd1.tw8683736395325986770 : True := trivial
theorem hd1.tw8684933254091997999 : True := trivial
theorem hd1.tw8703587862964859124 : True := trivial
theorem hd1.tw8788927870675210691 : True := trivial
theorem hd1.tw8823463151312779235 : True := trivial
theorem hd1.tw8847040719369055861 : True := trivial
theorem hd1.tw8883113342131298981 : True := trivial
theorem hd1.tw8888185553716603254 : True := trivial
theorem hd1.tw8891931603792703411 : True := trivial
theorem hd1.tw8897317221273682923 : True := trivial
theorem hd1.tw8951152777450857180 : True := trivial
theorem hd1.tw8960908473102815774 : True := trivial
theorem hd1.tw9023866487841320285 : True := trivial
theorem hd1.tw9098074682922652218 : True := trivial
theorem hd1.tw9113448638109483157 : True := trivial
theorem hd1.tw9125901021556258419 : True := trivial
theorem hd1.tw9152912511576587457 : True := trivial
theorem hd1.tw9182641436764111788 : True := trivial
theorem hd1.tw9185761762925535284 : True := trivial
theorem hd1.tw9209038450491583534 : True := trivial
theorem hd1.tw921877613551963436 : True := trivial
theorem hd1.tw9265409697017854956 : True := trivial
theorem hd1.tw9324456604941918822 : True := trivial
theorem hd1.tw935108864745703850 : True := trivial
theorem hd1.tw9419286112742195645 : True := trivial
theorem hd1.tw942694273921117962 : True := trivial
theorem hd1.tw9435292169722720409 : True := trivial
theorem hd1.tw9448296397204644000 : True := trivial
theorem hd1.tw9459420156665987318 : True := trivial
theorem hd1.tw9493108171427348771 : True := trivial
theorem hd1.tw9553983723927259796 : True := trivial
theorem hd1.tw9595227697772304253 : True := trivial
theorem hd1.tw9597611487188374362 : True := trivial
theorem hd1.tw9618450653562229966 : True := trivial
theorem hd1.tw9621782451525677701 : True := trivial
theorem hd1.tw964625958271011428 : True := trivial
theorem hd1.tw9684784305272928787 : True := trivial
theorem hd1.tw9716737876492249281 : True := trivial
theorem hd1.tw971978362640485385 : True := trivial
theorem hd1.tw9741609058625845286 : True := trivial
theorem hd1.tw97999506147197617 : True := trivial
theorem hd1.tw9852623055150001684 : True := trivial
theorem hd1.tw9854482353919735581 : True := trivial
theorem hd1.tw9861761186945109023 : True := trivial
theorem hd1.tw9890266840027511117 : True := trivial
theorem hd1.tw9986632842659690004 : True := trivial
set_option Elab.async true in
theorem hd1 : PySem.Challenge.rw_xm0055_01.Holds := by
  w_on; o_law; k_head; (case hw => w_witness2)
  refine walk_ ⟨?_, ?_, ?_, ?_, ?_, ?_⟩ rfl
  · intro p; kernel_rfl
  · intro p; kernel_rfl
  · intro p; kernel_rfl
  · intro p; kernel_rfl
  · intro p vals h S
    rcases vals with _ | ⟨v0, _ | ⟨v1, _ | ⟨v2, _ | ⟨v3, _ | ⟨v4, _ | ⟨v5, _ | ⟨v6, r⟩⟩⟩⟩⟩⟩⟩
    all_goals first | kernel_rfl | (simp at h; omega)
  · intro p; kernel_rfl
end Mn
theorem PySem.Challenge.cw_xm0055_01_holds : PySem.Challenge.rw_xm0055_01.Holds :=
  Mn.hd1
